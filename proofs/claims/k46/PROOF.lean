import PyProof.Rows.All
import Wide.All
import OpenK.AllK
import Wide.FinOn
import HandS.ForMost
import HandS.ForExc
import HandS.ExcCtx
import HandS.HotCalls
import HandS.ExcInit
import HandS.ExcValue
import HandS.Wide
import HandS.TupAny
import HandS.Deep
import HandS.Style
import HandS.Zip
import HandS.DictComp
import KE.LtData
import HandS.Flow
import HandS.Iter
import HandS.Defaults
import HandS.MakeKwOnly
import HandS.ClsMeth
import HandS.IsInst
import KE.KExcIs
import HandS.MakeKw
import HandS.ExcField
import HandS.ExcIs
import HandS.Small
import HandS.Head0
import HandS.Head1
import HandS.Head2
import HandS.HeadEnd
import HandS.HeadHook1
import HandS.HeadHook2
import HandS.Ends
import HandS.More
import HandS.Words
import HandS.WordsExc
import KE.KStateDown
import KE.KUnpackStar
import HandS.NoneIn
import HandS.FStr
import HandS.Text
import HandS.MapJoin
import HandS.RaiseMore
import HandS.TupSets
import KE.SortData
import HandS.Hot
import HandS.Comp
import KE.KRevSl
import HandS.Codes
import Lean
import PySem.Challenge.RW_spanloom_k46_records_as_texts
set_option Elab.async false
set_option linter.all false
set_option maxRecDepth 100000
set_option maxHeartbeats 0
/-! Ms: a data level over the hand layer. Values without addresses (D), states (Sta), computations (M), and what it means that a heap bears a state (Rep). -/
namespace Ms
open PySem PySem.Spec PyProof.Rows L2
inductive D where
  | non | bl (b : Bool) | int (i : Int) | str (x : Str)
  | tup (l : List D) | lst (l : List D) | dct (t : Nat) (ks vs : List D)
  | exc (c n : Str) (v : D)
  | ref (g : Nat) | own (i : Nat) | scr (l : List Int)
/-- a thing that may change -/
inductive MO where
  | lst (l : List D) | dct (t : Nat) (ks vs : List D) | ins (c : Str) (ns : List Str) (vs : List D)
inductive Slot where
  | no | val (d : D) | own (o : MO)
structure Sta where
  ρ : List Slot
  G : List MO
inductive Out (α : Type) where
  | ok (a : α) (s : Sta) | exc (e : D) (s : Sta) | stuck
abbrev M (α : Type) := Sta → Out α
def M.pure {α : Type} (a : α) : M α := fun s => .ok a s
def M.bind {α β : Type} (m : M α) (k : α → M β) : M β := fun s => match m s with
  | .ok a s' => k a s'
  | .exc e s' => .exc e s'
  | .stuck => .stuck
def M.stuck {α : Type} : M α := fun _ => .stuck
instance : Monad M where
  pure := M.pure
  bind := M.bind
def D.isOwn : D → Bool
  | .own _ => true
  | _ => false
/-! ### what a heap bears -/
/-- the written part and the module's names -/
structure RC where
  K : PySem.W.Frag
  mg : Str → Option Value
  pin : Option (Addr × Obj)
abbrev RC0 (K : PySem.W.Frag) (mg : Str → Option Value) : RC := ⟨K, mg, none⟩
/-- a thing that never changes any more stands at a -/
def Frz (T : Addr → Prop) (H : Hp) (a : Addr) (u : HO) : Prop := ¬ T a ∧ H a = some u
/-- the written empty tuple -/
def WrT (K : PySem.W.Frag) (a : Addr) (xs : List V) : Prop := xs = [] ∧ ∃ (o : Obj) (its : Array Value) (n : Nat), K.lookup a = some o ∧ o.cls = .type "tuple" ∧ o.data = .seq its n ∧ its.size ≤ sizeLine ∧ Vals xs its.toList
def keyD : Key → D
  | .inl i => .int i
  | .inr x => .str x
/-- a dict's keys and values: 0 ints and texts, 1 tuples of such -/
def DctH (t : Nat) (H : Hp) (a : Addr) (ks : List D) (vs : List V) : Prop :=
  (t = 0 ∧ ∃ kvs : List (Key × V), H a = some (.dK kvs) ∧ ks = kvs.map (fun p => keyD p.1) ∧ vs = kvs.map (·.2)) ∨
  (t = 1 ∧ ∃ kvs : List (List Key × V), H a = some (.dT kvs) ∧ ks = kvs.map (fun p => D.tup (p.1.map keyD)) ∧ vs = kvs.map (·.2))
theorem DctH.some {t : Nat} {H : Hp} {a : Addr} {ks : List D} {vs : List V} (h : DctH t H a ks vs) : H a ≠ none := by
  rcases h with ⟨_, kvs, e, _⟩ | ⟨_, kvs, e, _⟩ <;> rw [e] <;> simp
theorem DctH.keep {t : Nat} {H H' : Hp} {a : Addr} {ks : List D} {vs : List V} (h : DctH t H a ks vs) (k : ∀ o, H a = Option.some o → H' a = Option.some o) : DctH t H' a ks vs := by
  rcases h with ⟨t, kvs, e, x⟩ | ⟨t, kvs, e, x⟩
  · exact .inl ⟨t, kvs, k _ e, x⟩
  · exact .inr ⟨t, kvs, k _ e, x⟩
inductive At (C : RC) (T : Addr → Prop) (μ : List Addr) (H : Hp) : V → D → Prop
  | non : At C T μ H .non .non
  | bl (b : Bool) : At C T μ H (.bl b) (.bl b)
  | int (i : Int) : At C T μ H (.int i) (.int i)
  | str (x : Str) : At C T μ H (.str x) (.str x)
  | tup {a : Addr} {vs : List V} {ds : List D} (h : Frz T H a (.tup vs) ∨ WrT C.K a vs) (l : vs.length = ds.length) (c : ∀ (i : Nat) v d, vs[i]? = some v → ds[i]? = some d → At C T μ H v d) : At C T μ H (.ref a) (.tup ds)
  | lst {a : Addr} {vs : List V} {ds : List D} (h : Frz T H a (.lst vs)) (l : vs.length = ds.length) (c : ∀ (i : Nat) v d, vs[i]? = some v → ds[i]? = some d → At C T μ H v d) : At C T μ H (.ref a) (.lst ds)
  | dct {a : Addr} {t : Nat} {ks ds : List D} {vs : List V} (n : ¬ T a) (h : DctH t H a ks vs) (l : vs.length = ds.length) (c : ∀ (i : Nat) v d, vs[i]? = some v → ds[i]? = some d → At C T μ H v d) : At C T μ H (.ref a) (.dct t ks ds)
  | exc0 {a A : Addr} {c : Str} (g : C.mg c = some (.ref A)) (h : Frz T H a (ExO (.ref A) a)) : At C T μ H (.ref a) (.exc c Str.empty .non)
  | exc1 {a A dx : Addr} {c n : Str} {v : V} {d : D} {fs : List (Str × V)} (g : C.mg c = some (.ref A)) (h : Frz T H a (exo a A (some dx))) (hd : Frz T H dx (exd dx fs)) (hn : n ≠ Str.empty) (hl : fs.lookup n = some v) (hv : At C T μ H v d) : At C T μ H (.ref a) (.exc c n d)
  | excP0 {a A : Addr} {c : Str} {oe : Obj} (g : C.mg c = some (.ref A)) (p : C.pin = some (a, oe)) (hc : oe.cls = .ref A) (hd : oe.dict = none) (hf : ∃ vs, oe.data = .fields vs) : At C T μ H (.ref a) (.exc c Str.empty .non)
  | excP1 {a A dx : Addr} {c n : Str} {v : V} {d : D} {fs : List (Str × V)} {oe : Obj} (g : C.mg c = some (.ref A)) (p : C.pin = some (a, oe)) (hc : oe.cls = .ref A) (hx : oe.dict = some dx) (hf : ∃ vs, oe.data = .fields vs) (hd : Frz T H dx (.xd fs)) (hn : n ≠ Str.empty) (hl : fs.lookup n = some v) (hv : At C T μ H v d) : At C T μ H (.ref a) (.exc c n d)
  | ref {g : Nat} {a : Addr} (h : μ[g]? = some a) : At C T μ H (.ref a) (.ref g)
  | scr {a : Addr} {l : List Int} (h : (¬ T a ∧ Rd H a (.lst (l.map V.int))) ∨ ∀ H', SqL C.K H' a (l.map V.int)) : At C T μ H (.ref a) (.scr l)
/-- lists, place by place -/
inductive AtL (C : RC) (T : Addr → Prop) (μ : List Addr) (H : Hp) : List V → List D → Prop
  | nil : AtL C T μ H [] []
  | cons {v : V} {d : D} {vs : List V} {ds : List D} : At C T μ H v d → AtL C T μ H vs ds → AtL C T μ H (v :: vs) (d :: ds)
section
variable {C : RC} {T T' : Addr → Prop} {μ μ' : List Addr} {H H' : Hp}
theorem AtL.length : ∀ {vs : List V} {ds : List D}, AtL C T μ H vs ds → vs.length = ds.length
  | _, _, .nil => rfl
  | _, _, .cons _ t => congrArg (· + 1) t.length
theorem AtL.get : ∀ {vs : List V} {ds : List D} {i : Nat} {v : V} {d : D}, AtL C T μ H vs ds → vs[i]? = some v → ds[i]? = some d → At C T μ H v d
  | _, _, 0, _, _, .cons h _, e1, e2 => by
    simp at e1 e2
    subst e1 e2
    exact h
  | _, _, i + 1, _, _, .cons _ t, e1, e2 => t.get (i := i) (by simpa using e1) (by simpa using e2)
theorem AtL.of : ∀ {vs : List V} {ds : List D}, vs.length = ds.length → (∀ (i : Nat) v d, vs[i]? = some v → ds[i]? = some d → At C T μ H v d) → AtL C T μ H vs ds
  | [], [], _, _ => .nil
  | v :: vs, d :: ds, l, c => .cons (c 0 v d rfl rfl) (AtL.of (by simpa using l) fun i x y e1 e2 => c (i + 1) x y (by simpa using e1) (by simpa using e2))
  | [], _ :: _, l, _ => by simp at l
  | _ :: _, [], l, _ => by simp at l
theorem At.tupL {a : Addr} {vs : List V} {ds : List D} (h : Frz T H a (.tup vs) ∨ WrT C.K a vs) (c : AtL C T μ H vs ds) : At C T μ H (.ref a) (.tup ds) := .tup h c.length fun _ _ _ => c.get
theorem At.lstL {a : Addr} {vs : List V} {ds : List D} (h : Frz T H a (.lst vs)) (c : AtL C T μ H vs ds) : At C T μ H (.ref a) (.lst ds) := .lst h c.length fun _ _ _ => c.get
theorem At.tup_inv {v : V} {ds : List D} (h : At C T μ H v (.tup ds)) : ∃ a vs, v = .ref a ∧ (Frz T H a (.tup vs) ∨ WrT C.K a vs) ∧ AtL C T μ H vs ds := by
  cases h with
  | tup h l c => exact ⟨_, _, rfl, h, .of l c⟩
theorem At.lst_inv {v : V} {ds : List D} (h : At C T μ H v (.lst ds)) : ∃ a vs, v = .ref a ∧ Frz T H a (.lst vs) ∧ AtL C T μ H vs ds := by
  cases h with
  | lst h l c => exact ⟨_, _, rfl, h, .of l c⟩
theorem At.dct_inv {v : V} {t : Nat} {ks ds : List D} (h : At C T μ H v (.dct t ks ds)) : ∃ a vs, v = .ref a ∧ ¬ T a ∧ DctH t H a ks vs ∧ AtL C T μ H vs ds := by
  cases h with
  | dct n h l c => exact ⟨_, _, rfl, n, h, .of l c⟩
theorem At.int_inv {v : V} {i : Int} (h : At C T μ H v (.int i)) : v = .int i := by cases h; rfl
theorem At.bl_inv {v : V} {b : Bool} (h : At C T μ H v (.bl b)) : v = .bl b := by cases h; rfl
theorem At.str_inv {v : V} {x : Str} (h : At C T μ H v (.str x)) : v = .str x := by cases h; rfl
theorem At.non_inv {v : V} (h : At C T μ H v .non) : v = .non := by cases h; rfl
theorem At.ref_inv {v : V} {g : Nat} (h : At C T μ H v (.ref g)) : ∃ a, v = .ref a ∧ μ[g]? = some a := by
  cases h with
  | ref h => exact ⟨_, rfl, h⟩
theorem At.scr_inv {v : V} {l : List Int} (h : At C T μ H v (.scr l)) : ∃ a, v = .ref a ∧ SqL C.K H a (l.map V.int) := by
  cases h with
  | scr h => exact ⟨_, rfl, h.elim (fun q => .inl q.2) fun q => q H⟩
theorem At.own_inv {v : V} {i : Nat} (h : At C T μ H v (.own i)) : False := by cases h
/-- what stands still -/
structure Keep (T T' : Addr → Prop) (H H' : Hp) : Prop where
  stay : ∀ a o, H a = some o → ¬ T a → H' a = some o
  new : ∀ a, T' a → T a ∨ H a = none
theorem Keep.frz (k : Keep T T' H H') {a : Addr} {u : HO} (f : Frz T H a u) : Frz T' H' a u := by
  obtain ⟨n, f⟩ := f
  have nn : H a ≠ none → ¬ T' a := fun h t => (k.new a t).elim n h
  exact ⟨nn (by rw [f]; simp), k.stay a _ f n⟩
theorem At.keep (k : Keep T T' H H') (p : μ <+: μ') {v : V} {d : D} (h : At C T μ H v d) : At C T' μ' H' v d := by
  induction h with
  | non => exact .non
  | bl b => exact .bl b
  | int i => exact .int i
  | str x => exact .str x
  | tup h l c ih => exact .tup (h.imp k.frz id) l ih
  | lst h l c ih => exact .lst (k.frz h) l ih
  | dct n h l c ih => exact .dct (fun t => (k.new _ t).elim n h.some) (h.keep fun o e => k.stay _ o e n) l ih
  | exc0 g h => exact .exc0 g (k.frz h)
  | exc1 g h hd hn hl c ih => exact .exc1 g (k.frz h) (k.frz hd) hn hl ih
  | excP0 g p hc hd hf => exact .excP0 g p hc hd hf
  | excP1 g p hc hx hf hd hn hl c ih => exact .excP1 g p hc hx hf (k.frz hd) hn hl ih
  | ref h =>
    obtain ⟨t, rfl⟩ := p
    exact .ref (by rw [List.getElem?_append_left (List.getElem?_eq_some_iff.mp h).1]; exact h)
  | scr h =>
    refine .scr (h.imp (fun ⟨n, h⟩ => ?_) id)
    rcases h with h | ⟨o, h⟩
    · exact ⟨fun t => (k.new _ t).elim n (by rw [h]; simp), .inl (k.stay _ _ h n)⟩
    · exact ⟨fun t => (k.new _ t).elim n (by rw [h]; simp), .inr ⟨o, k.stay _ _ h n⟩⟩
theorem AtL.keep (k : Keep T T' H H') (p : μ <+: μ') : ∀ {vs : List V} {ds : List D}, AtL C T μ H vs ds → AtL C T' μ' H' vs ds
  | _, _, .nil => .nil
  | _, _, .cons h t => .cons (h.keep k p) (t.keep k p)
theorem AtL.append : ∀ {vs ws : List V} {ds es : List D}, AtL C T μ H vs ds → AtL C T μ H ws es → AtL C T μ H (vs ++ ws) (ds ++ es)
  | _, _, _, _, .nil, h => h
  | _, _, _, _, .cons a t, h => .cons a (t.append h)
theorem Frz.mono (h : ∀ a, T' a → T a) {a : Addr} {u : HO} (f : Frz T H a u) : Frz T' H a u := ⟨fun t => f.1 (h a t), f.2⟩
/-- less is forbidden -/
theorem At.mono (h : ∀ a, T' a → T a) {v : V} {d : D} (x : At C T μ H v d) : At C T' μ H v d := by
  induction x with
  | non => exact .non
  | bl b => exact .bl b
  | int i => exact .int i
  | str x => exact .str x
  | tup q l c ih => exact .tup (q.imp (Frz.mono h) id) l ih
  | lst q l c ih => exact .lst (q.mono h) l ih
  | dct n q l c ih => exact .dct (fun t => n (h _ t)) q l ih
  | exc0 g q => exact .exc0 g (q.mono h)
  | exc1 g q hd hn hl c ih => exact .exc1 g (q.mono h) (hd.mono h) hn hl ih
  | excP0 g p hc hd hf => exact .excP0 g p hc hd hf
  | excP1 g p hc hx hf hd hn hl c ih => exact .excP1 g p hc hx hf (hd.mono h) hn hl ih
  | ref q => exact .ref q
  | scr q => exact .scr (q.imp (fun ⟨n, q⟩ => ⟨fun t => n (h _ t), q⟩) id)
theorem AtL.mono (h : ∀ a, T' a → T a) : ∀ {vs : List V} {ds : List D}, AtL C T μ H vs ds → AtL C T' μ H vs ds
  | _, _, .nil => .nil
  | _, _, .cons a t => .cons (a.mono h) (t.mono h)
end
/-- the thing o stands at a -/
def RepO (C : RC) (T : Addr → Prop) (μ : List Addr) (H : Hp) (a : Addr) : MO → Prop
  | .lst ds => ∃ vs, H a = some (.lst vs) ∧ AtL C T μ H vs ds
  | .dct t ks ds => ∃ vs, DctH t H a ks vs ∧ AtL C T μ H vs ds
  | .ins c ns ds => ∃ (A dx : Addr) (fs : List (Str × V)), C.mg c = some (.ref A) ∧ H a = some (.ins A dx fs) ∧ fs.map (·.1) = ns ∧ AtL C T μ H (fs.map (·.2)) ds
def OwnAt (ρ : List Slot) (σ : L2.St) (a : Addr) : Prop := ∃ (i : Nat) (o : MO), ρ[i]? = some (.own o) ∧ σ[i]? = some (some (.ref a))
/-- the places that may be written -/
def Mine (μ : List Addr) (s : Sta) (σ : L2.St) (a : Addr) : Prop := a ∈ μ ∨ OwnAt s.ρ σ a
def Tab (F : Addr → Prop) (μ : List Addr) (s : Sta) (σ : L2.St) (a : Addr) : Prop := F a ∨ Mine μ s σ a
def RepS (C : RC) (T : Addr → Prop) (μ : List Addr) (H : Hp) (σ : L2.St) (i : Nat) : Slot → Prop
  | .no => True
  | .val d => ∃ v, σ[i]? = some (some v) ∧ At C T μ H v d
  | .own o => ∃ a, σ[i]? = some (some (.ref a)) ∧ RepO C T μ H a o
structure Rep (C : RC) (F : Addr → Prop) (μ : List Addr) (s : Sta) (σ : L2.St) (H : Hp) : Prop where
  len : s.ρ.length = σ.length
  slots : ∀ (i : Nat) sl, s.ρ[i]? = some sl → RepS C (Tab F μ s σ) μ H σ i sl
  inj : ∀ (i j : Nat) (oi oj : MO) (a : Addr), s.ρ[i]? = some (.own oi) → s.ρ[j]? = some (.own oj) → σ[i]? = some (some (.ref a)) → σ[j]? = some (some (.ref a)) → i = j
  lenG : μ.length = s.G.length
  objs : ∀ (g : Nat) o, s.G[g]? = some o → ∃ a, μ[g]? = some a ∧ RepO C (Tab F μ s σ) μ H a o
  nd : μ.Nodup
  sep : ∀ a, a ∈ μ → ¬ OwnAt s.ρ σ a
  far : ∀ a, F a → H a ≠ none ∧ ¬ Mine μ s σ a
/-- one state, then another one -/
structure Ext (C : RC) (F : Addr → Prop) (μ : List Addr) (s : Sta) (σ : L2.St) (H : Hp) (μ' : List Addr) (s' : Sta) (σ' : L2.St) (H' : Hp) : Prop where
  pre : μ <+: μ'
  keep : Keep (Mine μ s σ) (Mine μ' s' σ') H H'
  rep : Rep C F μ' s' σ' H'
  len : σ'.length = σ.length
section
variable {C : RC} {F : Addr → Prop} {μ μ1 μ2 : List Addr} {s s1 s2 : Sta} {σ σ1 σ2 : L2.St} {H H1 H2 : Hp}
theorem Keep.refl {T : Addr → Prop} {H : Hp} : Keep T T H H := ⟨fun _ _ h _ => h, fun _ h => .inl h⟩
theorem Keep.trans {T T1 T2 : Addr → Prop} {H H1 H2 : Hp} (a : Keep T T1 H H1) (b : Keep T1 T2 H1 H2) : Keep T T2 H H2 where
  stay := fun x o h n => b.stay x o (a.stay x o h n) fun t => (a.new x t).elim n (by rw [h]; simp)
  new := fun x t => by
    by_cases h : H x = none
    · exact .inr h
    · rcases b.new x t with t | t
      · exact a.new x t
      · by_cases q : T x
        · exact .inl q
        · obtain ⟨o, ho⟩ : ∃ o, H x = some o := Option.ne_none_iff_exists'.mp h
          rw [a.stay x o ho q] at t
          cases t
theorem Keep.tab {T T1 : Addr → Prop} {F : Addr → Prop} {H H1 : Hp} (a : Keep T T1 H H1) : Keep (fun x => F x ∨ T x) (fun x => F x ∨ T1 x) H H1 where
  stay := fun x o h n => a.stay x o h fun t => n (.inr t)
  new := fun x t => by
    rcases t with t | t
    · exact .inl (.inl t)
    · exact (a.new x t).imp .inr id
theorem Ext.refl (r : Rep C F μ s σ H) : Ext C F μ s σ H μ s σ H := ⟨List.prefix_refl _, .refl, r, rfl⟩
theorem Ext.trans (a : Ext C F μ s σ H μ1 s1 σ1 H1) (b : Ext C F μ1 s1 σ1 H1 μ2 s2 σ2 H2) : Ext C F μ s σ H μ2 s2 σ2 H2 :=
  ⟨a.pre.trans b.pre, a.keep.trans b.keep, b.rep, b.len.trans a.len⟩
theorem Ext.at (e : Ext C F μ s σ H μ1 s1 σ1 H1) {v : V} {d : D} (h : At C (Tab F μ s σ) μ H v d) : At C (Tab F μ1 s1 σ1) μ1 H1 v d := h.keep e.keep.tab e.pre
theorem Ext.atL (e : Ext C F μ s σ H μ1 s1 σ1 H1) {v : List V} {d : List D} (h : AtL C (Tab F μ s σ) μ H v d) : AtL C (Tab F μ1 s1 σ1) μ1 H1 v d := h.keep e.keep.tab e.pre
/-- a value in hand: an own thing by its slot -/
def AtX (C : RC) (F : Addr → Prop) (μ : List Addr) (s : Sta) (σ : L2.St) (H : Hp) (v : V) : D → Prop
  | .own i => σ[i]? = some (some v)
  | d => At C (Tab F μ s σ) μ H v d
theorem AtX.of {v : V} {d : D} (h : At C (Tab F μ s σ) μ H v d) : AtX C F μ s σ H v d := by
  cases d with
  | own i => exact h.own_inv.elim
  | _ => exact h
theorem AtX.at {v : V} {d : D} (h : AtX C F μ s σ H v d) (n : d.isOwn = false) : At C (Tab F μ s σ) μ H v d := by
  cases d with
  | own i => cases n
  | _ => exact h
theorem Ext.atX (e : Ext C F μ s σ H μ1 s1 σ H1) {v : V} {d : D} (h : AtX C F μ s σ H v d) : AtX C F μ1 s1 σ H1 v d := by
  cases d with
  | own i => exact h
  | _ => exact e.at h
end
end Ms
/-! Ms1: readings by computations. -/
namespace Ms
open PySem PySem.Spec PyProof.Rows L2
/-- an exception that flies -/
def XAt (C : RC) (T : Addr → Prop) (μ : List Addr) (H : Hp) (cls : Value) (dx : Option Addr) : D → Prop
  | .exc c n d => ∃ A : Addr, C.mg c = some (.ref A) ∧ cls = .ref A ∧ ((n = Str.empty ∧ d = .non ∧ dx = none) ∨ n ≠ Str.empty ∧ ∃ (q : Addr) (fs : List (Str × V)) (v : V), dx = some q ∧ H q = some (.xd fs) ∧ ¬ T q ∧ fs.lookup n = some v ∧ At C T μ H v d)
  | _ => False
/-- what a computation comes to -/
def Res {α : Type} (C : RC) (W : WX) (F : Addr → Prop) (μ : List Addr) (s : Sta) (σ : L2.St) (H : Hp) (m : M α) (K : α → List Addr → Sta → Hp → Prop) : Prop := match m s with
  | .ok a s' => ∀ μ' H', Ext C F μ s σ H μ' s' σ H' → K a μ' s' H'
  | .exc e s' => ∀ cls dx μ' H', Ext C F μ s σ H μ' s' σ H' → XAt C (Tab F μ' s' σ) μ' H' cls dx e → W cls dx σ H'
  | .stuck => False
section
variable {α β : Type} {C : RC} {W : WX} {F : Addr → Prop} {μ : List Addr} {s : Sta} {σ : L2.St} {H : Hp}
theorem Res.imp {m : M α} {K K' : α → List Addr → Sta → Hp → Prop} (h : Res C W F μ s σ H m K) (q : ∀ a μ1 s1 H1, Ext C F μ s σ H μ1 s1 σ H1 → K a μ1 s1 H1 → K' a μ1 s1 H1) : Res C W F μ s σ H m K' := by
  unfold Res at h ⊢
  cases e : m s with
  | ok a s1 =>
    rw [e] at h
    exact fun μ1 H1 x => q a μ1 s1 H1 x (h μ1 H1 x)
  | exc x s1 => rw [e] at h; exact h
  | stuck => rw [e] at h; exact h
theorem Res.split {m : M α} {k : α → M β} {K : β → List Addr → Sta → Hp → Prop} (h : Res C W F μ s σ H (m >>= k) K) :
    Res C W F μ s σ H m fun a μ1 s1 H1 => Res C W F μ1 s1 σ H1 (k a) K := by
  unfold Res at h ⊢
  cases e : m s with
  | ok a s1 =>
    have e2 : (m >>= k) s = k a s1 := by
      show M.bind m k s = _
      unfold M.bind
      rw [e]
    rw [e2] at h
    intro μ1 H1 x
    show Res C W F μ1 s1 σ H1 (k a) K
    unfold Res
    cases e3 : k a s1 with
    | ok b s2 =>
      rw [e3] at h
      exact fun μ2 H2 y => h μ2 H2 (x.trans y)
    | exc z s2 =>
      rw [e3] at h
      exact fun cls dx μ2 H2 y => h cls dx μ2 H2 (x.trans y)
    | stuck => rw [e3] at h; exact h
  | exc x s1 =>
    have e2 : (m >>= k) s = .exc x s1 := by
      show M.bind m k s = _
      unfold M.bind
      rw [e]
    rw [e2] at h
    exact h
  | stuck =>
    have e2 : (m >>= k) s = .stuck := by
      show M.bind m k s = _
      unfold M.bind
      rw [e]
    rw [e2] at h
    exact h
theorem Res.pure {a : α} {K : α → List Addr → Sta → Hp → Prop} (r : Rep C F μ s σ H) (h : Res C W F μ s σ H (pure a) K) : K a μ s H := h μ H (.refl r)
end
def tD (C : RC) (W : WX) (m : M D) : TE := fun σ H Q => ∃ F μ s, Rep C F μ s σ H ∧ Res C W F μ s σ H m fun d μ' s' H' => ∀ v, AtX C F μ' s' σ H' v d → Q v H'
def tDB (C : RC) (W : WX) (m : M Bool) : TT := fun σ H Q => ∃ F μ s, Rep C F μ s σ H ∧ Res C W F μ s σ H m fun b _ _ H' => Q b H'
def tDA (C : RC) (W : WX) (m : M (List D)) : TA := fun σ H Q => ∃ F μ s, Rep C F μ s σ H ∧ Res C W F μ s σ H m fun ds μ' s' H' => ∀ vs, AtL C (Tab F μ' s' σ) μ' H' vs ds → Q vs H'
/-- behind a statement -/
inductive Fl where
  | nx | rt (d : D) | bk | ct
def RtD (C : RC) (D : Ends) (F : Addr → Prop) (μ : List Addr) (s : Sta) (σ : L2.St) (H : Hp) : Fl → Prop
  | .nx => D.nx σ H
  | .rt d => ∀ v, At C (Tab F μ s σ) μ H v d → D.rt v H
  | .bk => D.bk σ H
  | .ct => D.ct σ H
def ResS (C : RC) (W : WX) (F : Addr → Prop) (μ : List Addr) (s : Sta) (σ : L2.St) (H : Hp) (m : M Fl) (K : Fl → List Addr → Sta → L2.St → Hp → Prop) : Prop := match m s with
  | .ok a s' => ∀ μ' σ' H', Ext C F μ s σ H μ' s' σ' H' → K a μ' s' σ' H'
  | .exc e s' => ∀ cls dx μ' σ' H', Ext C F μ s σ H μ' s' σ' H' → XAt C (Tab F μ' s' σ') μ' H' cls dx e → W cls dx σ' H'
  | .stuck => False
def tDS (C : RC) (W : WX) (m : M Fl) : TS := fun E σ H => ∃ F μ s, Rep C F μ s σ H ∧ ResS C W F μ s σ H m fun f μ' s' σ' H' => RtD C E F μ' s' σ' H' f
section
variable {X : Cx} {e a b : Expr} {es : List Expr} {st : Stmt} {sts : List Stmt} {pos : Pos} {t t' : TE} {C : RC} {W : WX}
theorem peImp (h : PE X e t) (i : ∀ σ H Q, t' σ H Q → t σ H Q) : PE X e t' := ⟨fun pins s σ H Q I q => h.run pins s σ H Q I (i σ H Q q)⟩
theorem ptImp {t t' : TT} (h : PT X e t) (i : ∀ σ H Q, t' σ H Q → t σ H Q) : PT X e t' := ⟨fun pins s σ H Q I q => h.run pins s σ H Q I (i σ H Q q)⟩
theorem pwImp {t t' : TT} (h : PW X e t) (i : ∀ σ H Q, t' σ H Q → t σ H Q) : PW X e t' := ⟨fun w pins s σ H Q I q => h.run w pins s σ H Q I (i σ H Q q)⟩
theorem paImp {t t' : TA} (h : PA X es t) (i : ∀ σ H Q, t' σ H Q → t σ H Q) : PA X es t' := ⟨fun pos pins s σ H Q I q => h.run pos pins s σ H Q I (i σ H Q q)⟩
theorem psImp {t t' : TS} (h : PS X st t) (i : ∀ D σ H, t' D σ H → t D σ H) : PS X st t' := ⟨fun pins s σ H D I q => h.run pins s σ H D I (i D σ H q)⟩
theorem pssImp {t t' : TS} (h : PSs X sts t) (i : ∀ D σ H, t' D σ H → t D σ H) : PSs X sts t' := ⟨fun pins s σ H D I q => h.run pins s σ H D I (i D σ H q)⟩
/-! ### the parts of computations -/
def M.lit (d : D) : M D := pure d
/-- a name: an own thing that is read out is given away -/
def M.var (i : Nat) : M D := fun s => match s.ρ[i]? with
  | some (.val d) => .ok d s
  | some (.own (.lst l)) => .ok (.lst l) { s with ρ := s.ρ.set i (.val (.lst l)) }
  | some (.own (.dct t ks vs)) => .ok (.dct t ks vs) { s with ρ := s.ρ.set i (.val (.dct t ks vs)) }
  | _ => .stuck
def M.peek (i : Nat) : M D := fun s => match s.ρ[i]? with
  | some (.val d) => .ok d s
  | some (.own _) => .ok (.own i) s
  | _ => .stuck
def M.op2 (f : D → D → M D) (a b : M D) : M D := do
  let x ← a
  let y ← b
  f x y
def M.out (d : D) : M D := if d.isOwn then M.stuck else pure d
def M.args : List (M D) → M (List D)
  | [] => pure []
  | m :: ms => do
    let d ← m
    let d ← M.out d
    let ds ← M.args ms
    pure (d :: ds)
def M.app (f : List D → M D) (ms : List (M D)) : M D := do
  let ds ← M.args ms
  f ds
def M.opt (o : Option D) : M D := match o with
  | some d => pure d
  | none => M.stuck
section
variable {F : Addr → Prop} {μ : List Addr} {s : Sta} {σ : L2.St} {H : Hp}
theorem res_opt {o : Option D} {K : D → List Addr → Sta → Hp → Prop} (r : Rep C F μ s σ H) (h : Res C W F μ s σ H (M.opt o) K) : ∃ d, o = some d ∧ K d μ s H := by
  cases o with
  | none => exact False.elim h
  | some d => exact ⟨d, rfl, h.pure r⟩
theorem res_stuck {α : Type} {K : α → List Addr → Sta → Hp → Prop} (h : Res C W F μ s σ H M.stuck K) : False := h
theorem res_out {d : D} {α : Type} {k : D → M α} {K : α → List Addr → Sta → Hp → Prop} (r : Rep C F μ s σ H) (h : Res C W F μ s σ H (M.out d >>= k) K) : d.isOwn = false ∧ Res C W F μ s σ H (k d) K := by
  cases e : d.isOwn with
  | true =>
    have e1 : M.out d = M.stuck := by unfold M.out; rw [e]; rfl
    have h1 := h.split
    rw [e1] at h1
    exact (res_stuck h1).elim
  | false =>
    have e1 : M.out d = pure d := by unfold M.out; rw [e]; rfl
    have h1 := h.split
    rw [e1] at h1
    exact ⟨rfl, h1.pure r⟩
/-- the slot's own thing is let go -/
theorem Rep.freeze {i : Nat} {o : MO} {d : D} {v : V} (r : Rep C F μ s σ H) (e : s.ρ[i]? = some (.own o)) (ev : σ[i]? = some (some v)) (h : ∀ T : Addr → Prop, (∀ a, T a → Tab F μ s σ a ∧ V.ref a ≠ v) → At C T μ H v d) :
    Rep C F μ { s with ρ := s.ρ.set i (.val d) } σ H := by
  obtain ⟨a, ea, ro⟩ := r.slots i _ e
  rw [ev] at ea
  cases ea
  have ilt : i < s.ρ.length := (List.getElem?_eq_some_iff.mp e).1
  have own1 : ∀ b, OwnAt (s.ρ.set i (.val d)) σ b → OwnAt s.ρ σ b ∧ b ≠ a := fun b ⟨j, oj, e1, e2⟩ => by
    by_cases hj : j = i
    · subst hj
      rw [List.getElem?_set_self ilt] at e1
      cases e1
    · rw [List.getElem?_set_ne (Ne.symm hj)] at e1
      refine ⟨⟨j, oj, e1, e2⟩, fun z => hj ?_⟩
      subst z
      exact r.inj j i oj o _ e1 e e2 ev
  have sub : ∀ b, Tab F μ { s with ρ := s.ρ.set i (.val d) } σ b → Tab F μ s σ b ∧ V.ref b ≠ V.ref a := fun b t => by
    rcases t with t | t | t
    · exact ⟨.inl t, fun z => (r.far b t).2 (.inr ⟨i, o, e, by injection z with z; rw [z]; exact ev⟩)⟩
    · exact ⟨.inr (.inl t), fun z => r.sep b t ⟨i, o, e, by injection z with z; rw [z]; exact ev⟩⟩
    · exact ⟨.inr (.inr (own1 b t).1), fun z => (own1 b t).2 (by injection z)⟩
  have sub1 : ∀ b, Tab F μ { s with ρ := s.ρ.set i (.val d) } σ b → Tab F μ s σ b := fun b t => (sub b t).1
  have ro1 : ∀ {b o}, RepO C (Tab F μ s σ) μ H b o → RepO C (Tab F μ { s with ρ := s.ρ.set i (.val d) } σ) μ H b o := fun {b o} x => by
    cases o with
    | lst l => obtain ⟨vs, e, c⟩ := x; exact ⟨vs, e, c.mono sub1⟩
    | dct t k l => obtain ⟨vs, e, c⟩ := x; exact ⟨vs, e, c.mono sub1⟩
    | ins c k l => obtain ⟨A, dx, fs, e1, e2, e3, c⟩ := x; exact ⟨A, dx, fs, e1, e2, e3, c.mono sub1⟩
  refine ⟨by simpa using r.len, fun j sl ej => ?_, fun j k oj ok b e1 e2 e3 e4 => ?_, r.lenG, fun g o eg => ?_, r.nd, fun b hb t => r.sep b hb (own1 b t).1, fun b t => ⟨(r.far b t).1, fun m => (r.far b t).2 (m.imp id fun q => (own1 b q).1)⟩⟩
  · by_cases hj : j = i
    · subst hj
      rw [List.getElem?_set_self ilt] at ej
      cases ej
      exact ⟨_, ev, h _ sub⟩
    · rw [List.getElem?_set_ne (Ne.symm hj)] at ej
      have q := r.slots j sl ej
      cases sl with
      | no => trivial
      | val d' => obtain ⟨w, e1, e2⟩ := q; exact ⟨w, e1, e2.mono sub1⟩
      | own o' => obtain ⟨w, e1, e2⟩ := q; exact ⟨w, e1, ro1 e2⟩
  · have nj : j ≠ i := fun z => by subst z; rw [List.getElem?_set_self ilt] at e1; cases e1
    have nk : k ≠ i := fun z => by subst z; rw [List.getElem?_set_self ilt] at e2; cases e2
    rw [List.getElem?_set_ne (Ne.symm nj)] at e1
    rw [List.getElem?_set_ne (Ne.symm nk)] at e2
    exact r.inj j k oj ok b e1 e2 e3 e4
  · obtain ⟨b, e1, e2⟩ := r.objs g o eg
    exact ⟨b, e1, ro1 e2⟩
/-- .. the state behind -/
theorem Rep.frozen {i : Nat} {o : MO} {d : D} (r : Rep C F μ s σ H) (e : s.ρ[i]? = some (.own o)) (h : ∀ (T : Addr → Prop) (a : Addr), RepO C (Tab F μ s σ) μ H a o → (∀ b, T b → Tab F μ s σ b ∧ b ≠ a) → At C T μ H (.ref a) d) :
    ∃ v, σ[i]? = some (some v) ∧ Ext C F μ s σ H μ { s with ρ := s.ρ.set i (.val d) } σ H := by
  obtain ⟨a, ea, ro⟩ := r.slots i _ e
  have r2 : Rep C F μ { s with ρ := s.ρ.set i (.val d) } σ H := r.freeze e ea fun T hT => h T a ro fun b hb => ⟨(hT b hb).1, fun z => (hT b hb).2 (by rw [z])⟩
  refine ⟨_, ea, List.prefix_refl _, ⟨fun _ _ q _ => q, fun b t => ?_⟩, r2, rfl⟩
  rcases t with t | ⟨j, oj, e1, e2⟩
  · exact .inl (.inl t)
  · have hj : j ≠ i := fun z => by
      subst z
      rw [List.getElem?_set_self (List.getElem?_eq_some_iff.mp e).1] at e1
      cases e1
    rw [List.getElem?_set_ne (Ne.symm hj)] at e1
    exact .inl (.inr ⟨j, oj, e1, e2⟩)
end
theorem d_lit {d : D} {v : V} (h : PE X e (tC v)) (hv : ∀ T μ H, At C T μ H v d) : PE X e (tD C W (M.lit d)) := peImp h fun σ H Q ⟨F, μ, s, r, q⟩ => q.pure r v (.of (hv _ _ _))
theorem d_int {i : Int} {j : Nat} : PE X (.Constant (.int i) j pos) (tD C W (M.lit (.int i))) := d_lit pe_int fun _ _ _ => .int i
theorem d_bl {i : Bool} {j : Nat} : PE X (.Constant (.bool i) j pos) (tD C W (M.lit (.bl i))) := d_lit pe_bl fun _ _ _ => .bl i
theorem d_non {j : Nat} : PE X (.Constant .none j pos) (tD C W (M.lit .non)) := d_lit pe_non fun _ _ _ => .non
theorem d_str {x : Str} {j : Nat} : PE X (.Constant (.str x) j pos) (tD C W (M.lit (.str x))) := d_lit pe_str fun _ _ _ => .str x
theorem d_var (i : Nat) (h : PE X e (tVar i)) : PE X e (tD C W (M.var i)) := peImp h fun σ H Q ⟨F, μ, s, r, q⟩ => by
  unfold Res M.var at q
  cases e : s.ρ[i]? with
  | none => rw [e] at q; exact q.elim
  | some sl =>
    rw [e] at q
    cases sl with
    | no => exact q.elim
    | val d =>
      obtain ⟨v, ev, hv⟩ := r.slots i _ e
      exact ⟨v, ev, q μ H (.refl r) v (.of hv)⟩
    | own o =>
      cases o with
      | lst l =>
        obtain ⟨v, ev, x⟩ := r.frozen (d := .lst l) e fun T a ⟨vs, ea, c⟩ hT => .lstL ⟨fun t => (hT a t).2 rfl, ea⟩ (c.mono fun b hb => (hT b hb).1)
        obtain ⟨v', ev', hv⟩ := x.rep.slots i (.val (.lst l)) (List.getElem?_set_self (List.getElem?_eq_some_iff.mp e).1)
        rw [ev] at ev'
        cases ev'
        exact ⟨v, ev, q μ H x v (.of hv)⟩
      | dct t ks l =>
        obtain ⟨v, ev, x⟩ := r.frozen (d := .dct t ks l) e fun T a ⟨vs, ea, c⟩ hT => .dct (fun t => (hT a t).2 rfl) ea c.length fun i v d => (c.mono fun b hb => (hT b hb).1).get
        obtain ⟨v', ev', hv⟩ := x.rep.slots i (.val (.dct t ks l)) (List.getElem?_set_self (List.getElem?_eq_some_iff.mp e).1)
        rw [ev] at ev'
        cases ev'
        exact ⟨v, ev, q μ H x v (.of hv)⟩
      | ins c ns l => exact q.elim
theorem d_peek (i : Nat) (h : PE X e (tVar i)) : PE X e (tD C W (M.peek i)) := peImp h fun σ H Q ⟨F, μ, s, r, q⟩ => by
  unfold Res M.peek at q
  cases e : s.ρ[i]? with
  | none => rw [e] at q; exact q.elim
  | some sl =>
    rw [e] at q
    cases sl with
    | no => exact q.elim
    | val d =>
      obtain ⟨v, ev, hv⟩ := r.slots i _ e
      exact ⟨v, ev, q μ H (.refl r) v (.of hv)⟩
    | own o =>
      obtain ⟨a, ea, _⟩ := r.slots i _ e
      exact ⟨.ref a, ea, q μ H (.refl r) (.ref a) ea⟩
/-- an operation on two values -/
def OpD (C : RC) (r : R2) (f : D → D → M D) : Prop := ∀ {W : WX} {F : Addr → Prop} {μ : List Addr} {s : Sta} {σ : L2.St} {H : Hp} {x y : V} {d e : D} {Q : VK}, Rep C F μ s σ H → AtX C F μ s σ H x d → AtX C F μ s σ H y e →
  Res C W F μ s σ H (f d e) (fun z μ' s' H' => ∀ v, AtX C F μ' s' σ H' v z → Q v H') → r x y H Q
theorem tD_op {r : R2} {f : D → D → M D} {ma mb : M D} (hr : OpD C r f) (σ : L2.St) (H : Hp) (Q : VK) (h : tD C W (M.op2 f ma mb) σ H Q) : tOp r (tD C W ma) (tD C W mb) σ H Q := by
  obtain ⟨F, μ, s, rp, h⟩ := h
  refine ⟨F, μ, s, rp, h.split.imp fun d μ1 s1 H1 x1 h1 v hv => ⟨F, μ1, s1, x1.rep, h1.split.imp fun e μ2 s2 H2 x2 h2 w hw => ?_⟩⟩
  exact hr x2.rep (x2.atX hv) hw h2
theorem d_op {r : R2} {f : D → D → M D} {ma mb : M D} {o : Operator} (hr : OpD C r f) (h : ∀ {ta tb : TE}, PE X a ta → PE X b tb → PE X e (tOp r ta tb)) (ha : PE X a (tD C W ma)) (hb : PE X b (tD C W mb)) : PE X e (tD C W (M.op2 f ma mb)) :=
  peImp (h ha hb) (tD_op hr)
/-! ### arguments -/
theorem da_nil : PA X [] (tDA C W (M.args [])) := paImp pa_nil fun σ H Q ⟨F, μ, s, r, q⟩ => q.pure r [] .nil
theorem da_cons {m : M D} {ms : List (M D)} (h : PE X e (tD C W m)) (hs : PA X es (tDA C W (M.args ms))) (he : starEach (e :: es) X.env = (false, eval e X.env) :: starEach es X.env := by rfl) : PA X (e :: es) (tDA C W (M.args (m :: ms))) := by
  refine paImp (pa_cons h hs he) fun σ H Q ⟨F, μ, s, r, q⟩ => ?_
  refine ⟨F, μ, s, r, q.split.imp fun d μ1 s1 H1 x1 h1 v hv => ?_⟩
  obtain ⟨n, h1⟩ := res_out x1.rep h1
  refine ⟨F, μ1, s1, x1.rep, h1.split.imp fun ds μ2 s2 H2 x2 h2 vs hvs => ?_⟩
  exact h2.pure x2.rep (v :: vs) (.cons (x2.at (hv.at n)) hvs)
end
end Ms
/-! Ms2: operators, comparisons, subscripts, displays. -/
namespace Ms
open PySem PySem.Spec PyProof.Rows L2
section
variable {C : RC} {W : WX} {F : Addr → Prop} {μ : List Addr} {s : Sta} {σ : L2.St} {H H' : Hp}
/-- nothing of ours stands at a free place -/
theorem Rep.free (r : Rep C F μ s σ H) {p : Addr} (h : H p = none) : ¬ Tab F μ s σ p := fun t => by
  have no : ∀ {o : MO}, RepO C (Tab F μ s σ) μ H p o → False := fun {o} x => by
    cases o with
    | lst l => obtain ⟨vs, e, _⟩ := x; rw [h] at e; cases e
    | dct t k l => obtain ⟨vs, e, _⟩ := x; exact e.some h
    | ins c k l => obtain ⟨A, dx, fs, _, e, _⟩ := x; rw [h] at e; cases e
  rcases t with t | t | ⟨i, o, e1, e2⟩
  · exact (r.far p t).1 h
  · obtain ⟨g, hg, e⟩ := List.getElem_of_mem t
    have hG : g < s.G.length := by rw [← r.lenG]; exact hg
    obtain ⟨a, ea, x⟩ := r.objs g _ (List.getElem?_eq_getElem hG)
    rw [List.getElem?_eq_getElem hg, e] at ea
    cases ea
    exact no x
  · obtain ⟨a, ea, x⟩ := r.slots i _ e1
    rw [e2] at ea
    cases ea
    exact no x
theorem RepO.keep {T T' : Addr → Prop} {a : Addr} {o : MO} (k : Keep T T' H H') (q : ∀ u, H a = some u → H' a = some u) (x : RepO C T μ H a o) : RepO C T' μ H' a o := by
  cases o with
  | lst l => obtain ⟨vs, e, c⟩ := x; exact ⟨vs, q _ e, c.keep k (List.prefix_refl _)⟩
  | dct t l1 l2 => obtain ⟨vs, e, c⟩ := x; exact ⟨vs, e.keep q, c.keep k (List.prefix_refl _)⟩
  | ins c l1 l2 => obtain ⟨A, dx, fs, e1, e2, e3, c⟩ := x; exact ⟨A, dx, fs, e1, q _ e2, e3, c.keep k (List.prefix_refl _)⟩
theorem Rep.grow (r : Rep C F μ s σ H) (h : ∀ a o, H a = some o → H' a = some o) : Rep C F μ s σ H' := by
  have k : Keep (Tab F μ s σ) (Tab F μ s σ) H H' := ⟨fun a o e _ => h a o e, fun _ t => .inl t⟩
  refine ⟨r.len, fun i sl e => ?_, r.inj, r.lenG, fun g o e => ?_, r.nd, r.sep, fun a t => ⟨fun z => ?_, (r.far a t).2⟩⟩
  · have q := r.slots i sl e
    cases sl with
    | no => trivial
    | val d => obtain ⟨v, e1, e2⟩ := q; exact ⟨v, e1, e2.keep k (List.prefix_refl _)⟩
    | own o => obtain ⟨a, e1, e2⟩ := q; exact ⟨a, e1, e2.keep k (h a)⟩
  · obtain ⟨a, e1, e2⟩ := r.objs g o e
    exact ⟨a, e1, e2.keep k (h a)⟩
  · obtain ⟨o, ho⟩ := Option.ne_none_iff_exists'.mp (r.far a t).1
    rw [h a o ho] at z
    cases z
theorem Rep.ext (r : Rep C F μ s σ H) (h : ∀ a o, H a = some o → H' a = some o) : Ext C F μ s σ H μ s σ H' := ⟨List.prefix_refl _, ⟨fun a o e _ => h a o e, fun _ t => .inl t⟩, r.grow h, rfl⟩
theorem Rep.ext1 (r : Rep C F μ s σ H) {p : Addr} {o : HO} (h : H p = none) : Ext C F μ s σ H μ s σ (upd H p o) := r.ext fun a u e => by rw [upd_ne (ne_of_none e h)]; exact e
theorem Rep.newTup (r : Rep C F μ s σ H) {p : Addr} {vs : List V} {ds : List D} (h : H p = none) (c : AtL C (Tab F μ s σ) μ H vs ds) : At C (Tab F μ s σ) μ (upd H p (.tup vs)) (.ref p) (.tup ds) :=
  .tupL (.inl ⟨r.free h, upd_same⟩) ((r.ext1 h).atL c)
theorem Rep.newLst (r : Rep C F μ s σ H) {p : Addr} {vs : List V} {ds : List D} (h : H p = none) (c : AtL C (Tab F μ s σ) μ H vs ds) : At C (Tab F μ s σ) μ (upd H p (.lst vs)) (.ref p) (.lst ds) :=
  .lstL ⟨r.free h, upd_same⟩ ((r.ext1 h).atL c)
/-! ### what a value holds -/
def D.seqL (s : Sta) : D → Option (List D)
  | .lst l => some l
  | .own i => match s.ρ[i]? with
    | some (.own (.lst l)) => some l
    | _ => none
  | .ref g => match s.G[g]? with
    | some (.lst l) => some l
    | _ => none
  | _ => none
theorem Rep.seqL (r : Rep C F μ s σ H) {x : V} {d : D} {l : List D} (h : AtX C F μ s σ H x d) (e : d.seqL s = some l) : ∃ a vs, x = .ref a ∧ H a = some (.lst vs) ∧ AtL C (Tab F μ s σ) μ H vs l := by
  unfold D.seqL at e
  split at e
  · cases e
    obtain ⟨a, vs, rfl, f, c⟩ := At.lst_inv h
    exact ⟨a, vs, rfl, f.2, c⟩
  · rename_i i
    split at e
    · rename_i l' e1
      cases e
      obtain ⟨a, ea, vs, q, c⟩ := r.slots i _ e1
      have h' : σ[i]? = some (some x) := h
      rw [h'] at ea
      cases ea
      exact ⟨a, vs, rfl, q, c⟩
    · cases e
  · rename_i g
    split at e
    · rename_i l' e1
      cases e
      obtain ⟨a, rfl, ea⟩ := At.ref_inv h
      obtain ⟨b, eb, vs, q, c⟩ := r.objs g _ e1
      rw [ea] at eb
      cases eb
      exact ⟨a, vs, rfl, q, c⟩
    · cases e
  · cases e
def SqTA (C : RC) (F : Addr → Prop) (μ : List Addr) (s : Sta) (σ : L2.St) (H : Hp) (a : Addr) (vs : List V) : Prop := Frz (Tab F μ s σ) H a (.tup vs) ∨ WrT C.K a vs
theorem SqTA.sq {a : Addr} {vs : List V} (h : Frz (Tab F μ s σ) H a (.tup vs) ∨ WrT C.K a vs) : SqT C.K H a vs := h.elim (fun f => .inl (.inl f.2)) fun f => .inr f.2
mutual
def D.py : D → Option PyData
  | .non => some .none
  | .bl b => some (.bool b)
  | .int i => some (.int i)
  | .str x => some (.str x)
  | .tup l => (pyL l).map .tuple
  | .lst l => (pyL l).map .list
  | _ => none
def pyL : List D → Option (List PyData)
  | [] => some []
  | d :: ds => match D.py d, pyL ds with
    | some p, some ps => some (p :: ps)
    | _, _ => none
end
mutual
theorem py_dp {T : Addr → Prop} : ∀ (d : D) (v : V) (p : PyData), At C T μ H v d → d.py = some p → Dp C.K H v p
  | .non, v, p, h, e => by
    cases h
    simp [D.py] at e
    subst e
    exact .non
  | .bl b, v, p, h, e => by
    cases h
    simp [D.py] at e
    subst e
    exact .bl b
  | .int i, v, p, h, e => by
    cases h
    simp [D.py] at e
    subst e
    exact .int i
  | .str x, v, p, h, e => by
    cases h
    simp [D.py] at e
    subst e
    exact .str x
  | .tup l, v, p, h, e => by
    obtain ⟨a, vs, rfl, f, c⟩ := h.tup_inv
    rw [D.py] at e
    obtain ⟨ps, e1, rfl⟩ := Option.map_eq_some_iff.mp e
    exact .tup (f.elim (fun f => .inl (.inl f.2)) fun f => .inr f.2) (pyL_dp l vs ps c e1)
  | .lst l, v, p, h, e => by
    obtain ⟨a, vs, rfl, f, c⟩ := h.lst_inv
    rw [D.py] at e
    obtain ⟨ps, e1, rfl⟩ := Option.map_eq_some_iff.mp e
    exact .lst (.inl (.inl f.2)) (pyL_dp l vs ps c e1)
  | .dct _ _ _, v, p, h, e => by simp [D.py] at e
  | .exc _ _ _, v, p, h, e => by simp [D.py] at e
  | .ref _, v, p, h, e => by simp [D.py] at e
  | .own _, v, p, h, e => by simp [D.py] at e
  | .scr _, v, p, h, e => by simp [D.py] at e
theorem pyL_dp {T : Addr → Prop} : ∀ (ds : List D) (vs : List V) (ps : List PyData), AtL C T μ H vs ds → pyL ds = some ps → DpAll C.K H vs ps
  | [], vs, ps, h, e => by
    cases h
    simp [pyL] at e
    subst e
    exact .nil
  | d :: ds, vs, ps, h, e => by
    cases h with
    | cons h t =>
      rw [pyL] at e
      split at e
      · rename_i p1 ps1 e1 e2
        cases e
        exact .cons (py_dp d _ p1 h e1) (pyL_dp ds _ ps1 t e2)
      · cases e
end
/-- .. an own list, a shared list too -/
def D.pyS (s : Sta) (d : D) : Option PyData := match d with
  | .own _ | .ref _ => match d.seqL s with
    | some l => (pyL l).map .list
    | none => none
  | d => d.py
theorem Rep.pyS (r : Rep C F μ s σ H) {x : V} {d : D} {p : PyData} (h : AtX C F μ s σ H x d) (e : d.pyS s = some p) : Dp C.K H x p := by
  have go : ∀ l, d.seqL s = some l → (pyL l).map PyData.list = some p → Dp C.K H x p := fun l e1 e2 => by
    obtain ⟨a, vs, rfl, q, c⟩ := r.seqL h e1
    obtain ⟨ps, e3, rfl⟩ := Option.map_eq_some_iff.mp e2
    exact .lst (.inl (.inl q)) (pyL_dp l vs ps c e3)
  unfold D.pyS at e
  split at e
  · split at e
    · exact go _ (by assumption) e
    · cases e
  · split at e
    · exact go _ (by assumption) e
    · cases e
  · refine py_dp d x p (h.at ?_) e
    cases d <;> first | rfl | (rename_i q1 q2; exact absurd rfl (q1 _))
/-! ### operators -/
def M.look (f : Sta → Option D) : M D := fun s => match f s with
  | some d => .ok d s
  | none => .stuck
theorem res_look {f : Sta → Option D} {K : D → List Addr → Sta → Hp → Prop} (h : Res C W F μ s σ H (M.look f) K) : ∃ d, f s = some d ∧ ∀ H', Ext C F μ s σ H μ s σ H' → K d μ s H' := by
  unfold Res M.look at h
  cases e : f s with
  | none => rw [e] at h; exact h.elim
  | some d => rw [e] at h; exact ⟨d, rfl, fun H' x => h μ H' x⟩
end
def lenOk (n : Nat) : Bool := decide (n ≤ 16777216)
theorem lenOk_line {n : Nat} (h : lenOk n = true) : n ≤ sizeLine := by
  rw [sizeLine_eq]
  exact of_decide_eq_true h
def addD (s : Sta) : D → D → Option D
  | .int i, .int j => some (.int (i + j))
  | .str x, .str y => if lenOk (x.length + y.length) then some (.str (x ++ y)) else none
  | .tup a, .tup b => if lenOk (a.length + b.length) then some (.tup (a ++ b)) else none
  | a, b => match a.seqL s, b.seqL s with
    | some a, some b => if lenOk (a.length + b.length) then some (.lst (a ++ b)) else none
    | _, _ => none
def rAdd (K : PySem.W.Frag) : R2 := fun x y H Q => rI0 (fun i j => .int (i + j)) x y H Q ∨ ((∃ i j, x = .str i ∧ y = .str j ∧ i.length + j.length ≤ sizeLine ∧ Q (.str (i ++ j)) H) ∨ (rCatA K x y H Q ∨ rCat x y H Q))
theorem op_addD {X : Cx} : OpR X (binaryOp .Add) (rAdd X.K) := op_add.or (op_add_str.or (op_catA.or op_cat))
theorem at_int {C : RC} {T : Addr → Prop} {μ : List Addr} {H : Hp} {F : Addr → Prop} {s : Sta} {σ : L2.St} {v : V} {i : Int} (h : AtX C F μ s σ H v (.int i)) : v = .int i := At.int_inv h
theorem at_str {C : RC} {μ : List Addr} {H : Hp} {F : Addr → Prop} {s : Sta} {σ : L2.St} {v : V} {i : Str} (h : AtX C F μ s σ H v (.str i)) : v = .str i := At.str_inv h
theorem addD_ok {C : RC} : OpD C (rAdd C.K) (fun a b => M.look fun s => addD s a b) := by
  intro W F μ s σ H x y d e Q r hx hy h
  obtain ⟨z, ez, k⟩ := res_look h
  have val : ∀ {v : V}, AtX C F μ s σ H v z → Q v H := fun {v} hv => k H (.refl r) v hv
  have lists : ∀ {a b : List D}, d.seqL s = some a → e.seqL s = some b → lenOk (a.length + b.length) = true → z = .lst (a ++ b) → rAdd C.K x y H Q := fun {a b} e1 e2 l ez => by
    obtain ⟨p, vs, rfl, hp, c1⟩ := r.seqL hx e1
    obtain ⟨q, ws, rfl, hq, c2⟩ := r.seqL hy e2
    refine .inr (.inr (.inr ⟨p, q, vs, ws, rfl, rfl, hp, hq, by rw [c1.length, c2.length]; exact lenOk_line l, fun n hn => ?_⟩))
    exact k _ (r.ext1 hn) _ (by rw [ez]; exact r.newLst hn (c1.append c2))
  unfold addD at ez
  split at ez
  · cases ez
    cases at_int (T := F) hx
    cases at_int (T := F) hy
    exact .inl ⟨_, _, rfl, rfl, val (.of (.int _))⟩
  · split at ez
    · rename_i l
      cases ez
      cases at_str hx
      cases at_str hy
      exact .inr (.inl ⟨_, _, rfl, rfl, lenOk_line l, val (.of (.str _))⟩)
    · cases ez
  · split at ez
    · rename_i a b l
      cases ez
      obtain ⟨p, vs, rfl, hp, c1⟩ := At.tup_inv hx
      obtain ⟨q, ws, rfl, hq, c2⟩ := At.tup_inv hy
      refine .inr (.inr (.inl ⟨p, q, vs, ws, rfl, rfl, SqTA.sq hp, SqTA.sq hq, by rw [c1.length, c2.length]; exact lenOk_line l, fun n => ?_, fun n1 n2 => ?_, fun n1 n2 n hn => ?_⟩))
      · subst n
        cases c1
        exact val (.of (.tupL hq c2))
      · subst n2
        cases c2
        rw [List.append_nil] at val
        exact val (.of (.tupL hp c1))
      · exact k _ (r.ext1 hn) _ (.of (r.newTup hn (c1.append c2)))
    · cases ez
  · split at ez
    · rename_i a b e1 e2
      split at ez
      · rename_i l
        cases ez
        exact lists e1 e2 l rfl
      · cases ez
    · cases ez
/-- two whole numbers -/
def intD (g : Int → Int → Option D) : D → D → Option D
  | .int i, .int j => g i j
  | _, _ => none
theorem intD_inv {g : Int → Int → Option D} {a b z : D} (h : intD g a b = some z) : ∃ i j, a = .int i ∧ b = .int j ∧ g i j = some z := by
  unfold intD at h
  split at h
  · exact ⟨_, _, rfl, rfl, h⟩
  · cases h
theorem intD_ok {C : RC} {g : Int → Int → Option D} {CC : Int → Int → Prop} {gv : Int → Int → V} (hc : ∀ i j z, g i j = some z → CC i j ∧ ∀ T μ H, At C T μ H (gv i j) z) : OpD C (rI CC gv) (fun a b => M.look fun _ => intD g a b) := by
  intro W F μ s σ H x y d e Q r hx hy h
  obtain ⟨z, ez, k⟩ := res_look h
  obtain ⟨i, j, rfl, rfl, e⟩ := intD_inv ez
  cases at_int (T := F) hx
  cases at_int (T := F) hy
  obtain ⟨c, q⟩ := hc i j z e
  exact ⟨i, j, rfl, rfl, c, k H (.refl r) _ (.of (q _ _ _))⟩
theorem intD_ok0 {C : RC} {g : Int → Int → Option D} {gv : Int → Int → V} (hc : ∀ i j z, g i j = some z → ∀ T μ H, At C T μ H (gv i j) z) : OpD C (rI0 gv) (fun a b => M.look fun _ => intD g a b) := by
  intro W F μ s σ H x y d e Q r hx hy h
  obtain ⟨z, ez, k⟩ := res_look h
  obtain ⟨i, j, rfl, rfl, e⟩ := intD_inv ez
  cases at_int (T := F) hx
  cases at_int (T := F) hy
  exact ⟨i, j, rfl, rfl, k H (.refl r) _ (.of (hc i j z e _ _ _))⟩
def gSub (i j : Int) : Option D := some (.int (i - j))
def gMul (i j : Int) : Option D := if i.natAbs.log2 + j.natAbs.log2 < 1000000 then some (.int (i * j)) else none
def gDiv (i j : Int) : Option D := if 0 < j ∧ j.natAbs.log2 < 9000 then some (.int (i / j)) else none
def gMod (i j : Int) : Option D := if 0 < j then some (.int (i % j)) else none
def gPow (i j : Int) : Option D := if 0 ≤ j ∧ j ≤ 1000000 ∧ i.natAbs < 2 ^ 64 then some (.int (i ^ j.toNat)) else none
def gLt (i j : Int) : Option D := some (.bl (decide (i < j)))
def gLe (i j : Int) : Option D := some (.bl (decide (i ≤ j)))
def gGt (i j : Int) : Option D := some (.bl (decide (j < i)))
def gGe (i j : Int) : Option D := some (.bl (decide (j ≤ i)))
abbrev fAdd : D → D → M D := fun a b => M.look fun s => addD s a b
abbrev fInt (g : Int → Int → Option D) : D → D → M D := fun a b => M.look fun _ => intD g a b
section
variable {X : Cx} {e a b : Expr} {es : List Expr} {pos : Pos} {W : WX} {ma mb : M D} {mg : Str → Option Value}
/-- the exception that is handled, within a suite -/
abbrev pinOf (X : Cx) : Option (Addr × Obj) := match X.calm with
  | true => none
  | false => X.pn.head?
abbrev XC (X : Cx) : RC := ⟨X.K, X.mg, pinOf X⟩
theorem d_add (ha : PE X a (tD (XC X) W ma)) (hb : PE X b (tD (XC X) W mb)) : PE X (.BinOp a .Add b pos) (tD (XC X) W (M.op2 fAdd ma mb)) := peImp (pe_op op_addD ha hb) (tD_op addD_ok)
theorem d_sub (ha : PE X a (tD (XC X) W ma)) (hb : PE X b (tD (XC X) W mb)) : PE X (.BinOp a .Sub b pos) (tD (XC X) W (M.op2 (fInt gSub) ma mb)) :=
  peImp (pe_op op_sub ha hb) (tD_op (intD_ok0 fun i j z e T μ H => by cases e; exact .int _))
theorem d_mul (ha : PE X a (tD (XC X) W ma)) (hb : PE X b (tD (XC X) W mb)) : PE X (.BinOp a .Mult b pos) (tD (XC X) W (M.op2 (fInt gMul) ma mb)) :=
  peImp (pe_op op_mulW ha hb) (tD_op (intD_ok fun i j z e => by
    unfold gMul at e
    split at e
    · cases e
      exact ⟨by assumption, fun _ _ _ => .int _⟩
    · cases e))
theorem d_fdiv (ha : PE X a (tD (XC X) W ma)) (hb : PE X b (tD (XC X) W mb)) : PE X (.BinOp a .FloorDiv b pos) (tD (XC X) W (M.op2 (fInt gDiv) ma mb)) :=
  peImp (pe_op op_fdivW ha hb) (tD_op (intD_ok fun i j z e => by
    unfold gDiv at e
    split at e
    · cases e
      exact ⟨by assumption, fun _ _ _ => .int _⟩
    · cases e))
theorem d_mod (ha : PE X a (tD (XC X) W ma)) (hb : PE X b (tD (XC X) W mb)) : PE X (.BinOp a .Mod b pos) (tD (XC X) W (M.op2 (fInt gMod) ma mb)) :=
  peImp (pe_op op_mod ha hb) (tD_op (intD_ok fun i j z e => by
    unfold gMod at e
    split at e
    · cases e
      exact ⟨by assumption, fun _ _ _ => .int _⟩
    · cases e))
theorem d_pow (ha : PE X a (tD (XC X) W ma)) (hb : PE X b (tD (XC X) W mb)) : PE X (.BinOp a .Pow b pos) (tD (XC X) W (M.op2 (fInt gPow) ma mb)) :=
  peImp (pe_op op_pow ha hb) (tD_op (intD_ok fun i j z e => by
    unfold gPow at e
    split at e
    · cases e
      exact ⟨by assumption, fun _ _ _ => .int _⟩
    · cases e))
end
end Ms
/-! Ms3: comparisons, membership, subscripts. -/
namespace Ms
open PySem PySem.Spec PyProof.Rows L2
/-! ### data by < -/
def rLtD (K : PySem.W.Frag) : R2 := fun x y H Q => ∃ d e, Dp K H x d ∧ Dp K H y e ∧ PySem.W.alike d e = true ∧ d ≠ .none ∧ min d.depth e.depth ≤ 60 ∧ Q (.bl (PySem.W.dataLt d e)) H
theorem op_ltD {X : Cx} (hu : X.A.units + 64 < cLine) : OpR X (compareOp .Lt) (rLtD X.K) := by
  intro pins s σ H x y v u Q I rx ry h
  obtain ⟨d, e, hd, he, al, nn, dp, q⟩ := h
  obtain ⟨as, r1⟩ := Dp.reads I d x v hd rx
  obtain ⟨bs, r2⟩ := Dp.reads I e y u he ry
  exact PySem.W.rcLt_alike d e X.A s v u as bs r1 r2 al nn (by omega) _ _ _ _ ⟨.bl _, H, I, rfl, q⟩
def pyNone : PyData → Bool
  | .none => true
  | _ => false
def ltD (s : Sta) (a b : D) : Option D := match a, b with
  | .int i, .int j => some (.bl (decide (i < j)))
  | a, b => match a.pyS s, b.pyS s with
    | some p, some q => if PySem.W.alike p q && !pyNone p && decide (min p.depth q.depth ≤ 60) then some (.bl (PySem.W.dataLt p q)) else none
    | _, _ => none
theorem ltD_ok {C : RC} : OpD C (fun x y H Q => rI0 (fun i j => .bl (decide (i < j))) x y H Q ∨ rLtD C.K x y H Q) (fun a b => M.look fun s => ltD s a b) := by
  intro W F μ s σ H x y d e Q r hx hy h
  obtain ⟨z, ez, k⟩ := res_look h
  unfold ltD at ez
  split at ez
  · cases ez
    cases at_int (T := F) hx
    cases at_int (T := F) hy
    exact .inl ⟨_, _, rfl, rfl, k H (.refl r) _ (.of (.bl _))⟩
  · split at ez
    · rename_i p q e1 e2
      split at ez
      · rename_i c
        cases ez
        simp only [Bool.and_eq_true, Bool.not_eq_true', decide_eq_true_eq] at c
        refine .inr ⟨p, q, r.pyS hx e1, r.pyS hy e2, c.1.1, fun n => ?_, c.2, k H (.refl r) _ (.of (.bl _))⟩
        subst n
        exact absurd c.1.2 (by simp [pyNone])
      · cases ez
    · cases ez
/-! ### == -/
def scEq : D → D → Option Bool
  | .non, .non => some true
  | .non, .int _ | .int _, .non | .non, .bl _ | .bl _, .non | .non, .str _ | .str _, .non | .int _, .str _ | .str _, .int _ | .bl _, .str _ | .str _, .bl _ => some false
  | .int i, .int j => some (decide (i = j))
  | .bl i, .bl j => some (decide (i = j))
  | .str i, .str j => some (decide (i = j))
  | _, _ => none
def eqD (s : Sta) (a b : D) : Option Bool := match scEq a b with
  | some k => some k
  | none => match a.pyS s, b.pyS s with
    | some p, some q => if SeqAt.shaped p && SeqAt.shaped q then some (PyData.eqv p q) else none
    | _, _ => none
section
variable {C : RC} {W : WX} {F : Addr → Prop} {μ : List Addr} {s : Sta} {σ : L2.St} {H : Hp}
theorem scEq_at {a b : D} {x y : V} {k : Bool} (h : scEq a b = some k) (hx : AtX C F μ s σ H x a) (hy : AtX C F μ s σ H y b) : scal x y = true ∧ decide (x = y) = k := by
  unfold scEq at h
  split at h
  all_goals first
    | (cases h; cases at_int (T := F) hx; cases at_int (T := F) hy; exact ⟨rfl, by simp⟩)
    | (cases h; cases at_str hx; cases at_str hy; exact ⟨rfl, by simp⟩)
    | (cases h; cases (At.bl_inv hx); cases (At.bl_inv hy); exact ⟨rfl, by simp⟩)
    | (cases h; cases (At.non_inv hx); cases (At.non_inv hy); exact ⟨rfl, by simp⟩)
    | (cases h; cases (At.non_inv hx); cases at_int (T := F) hy; exact ⟨rfl, by simp⟩)
    | (cases h; cases at_int (T := F) hx; cases (At.non_inv hy); exact ⟨rfl, by simp⟩)
    | (cases h; cases (At.non_inv hx); cases (At.bl_inv hy); exact ⟨rfl, by simp⟩)
    | (cases h; cases (At.bl_inv hx); cases (At.non_inv hy); exact ⟨rfl, by simp⟩)
    | (cases h; cases (At.non_inv hx); cases at_str hy; exact ⟨rfl, by simp⟩)
    | (cases h; cases at_str hx; cases (At.non_inv hy); exact ⟨rfl, by simp⟩)
    | (cases h; cases at_str hx; cases at_int (T := F) hy; exact ⟨rfl, by simp⟩)
    | (cases h; cases at_int (T := F) hx; cases at_str hy; exact ⟨rfl, by simp⟩)
    | (cases h; cases at_str hx; cases (At.bl_inv hy); exact ⟨rfl, by simp⟩)
    | (cases h; cases (At.bl_inv hx); cases at_str hy; exact ⟨rfl, by simp⟩)
    | cases h
end
theorem eqD_ok {C : RC} {K : Bool → Bool} {r1 r2 : R2} (h1 : ∀ x y H Q, scal x y = true → Q (.bl (K (decide (x = y)))) H → r1 x y H Q)
    (h2 : ∀ x y H Q d e, Dp C.K H x d → Dp C.K H y e → SeqAt.shaped d = true → SeqAt.shaped e = true → Q (.bl (K (PyData.eqv d e))) H → r2 x y H Q) :
    OpD C (fun x y H Q => r1 x y H Q ∨ r2 x y H Q) (fun a b => M.look fun s => (eqD s a b).map fun k => .bl (K k)) := by
  intro W F μ s σ H x y d e Q r hx hy h
  obtain ⟨z, ez, k⟩ := res_look h
  obtain ⟨b, eb, rfl⟩ := Option.map_eq_some_iff.mp ez
  have kk := k H (.refl r) _ (.of (.bl _))
  unfold eqD at eb
  split at eb
  · rename_i b' e1
    cases eb
    obtain ⟨sc, ed⟩ := scEq_at e1 hx hy
    exact .inl (h1 _ _ _ _ sc (by rw [ed]; exact kk))
  · split at eb
    · rename_i p q e1 e2
      split at eb
      · rename_i c
        cases eb
        simp only [Bool.and_eq_true] at c
        exact .inr (h2 _ _ _ _ p q (r.pyS hx e1) (r.pyS hy e2) c.1 c.2 kk)
      · cases eb
    · cases eb
abbrev fEq : D → D → M D := fun a b => M.look fun s => (eqD s a b).map fun k => .bl k
abbrev fNe : D → D → M D := fun a b => M.look fun s => (eqD s a b).map fun k => .bl (!k)
abbrev fLt : D → D → M D := fun a b => M.look fun s => ltD s a b
/-! ### is -/
def D.isNon : D → Bool
  | .non => true
  | _ => false
def isD (neg : Bool) (_ : Sta) (a b : D) : Option D := match b with
  | .non => some (.bl (a.isNon != neg))
  | .bl k => match a with
    | .bl j => some (.bl (decide (j = k) != neg))
    | _ => none
  | _ => none
theorem isNon_at {C : RC} {F : Addr → Prop} {μ : List Addr} {s : Sta} {σ : L2.St} {H : Hp} {x : V} {d : D} (r : Rep C F μ s σ H) (h : AtX C F μ s σ H x d) (n : d.isOwn = false) : decide (x = .non) = d.isNon := by
  have h := h.at n
  cases h <;> simp [D.isNon]
def rIs (neg : Bool) : R2 := fun x y H Q => (y = .non ∧ Q (.bl (decide (x = .non) != neg)) H) ∨ ∃ a b : Bool, x = .bl a ∧ y = .bl b ∧ Q (.bl (decide (a = b) != neg)) H
theorem op_isD {X : Cx} : OpR X (compareOp .Is) (rIs false) := fun pins s σ H x y v u Q I rx ry h => by
  rcases h with ⟨e, q⟩ | ⟨a, b, e1, e2, q⟩
  · exact op_isN pins s σ H x y v u Q I rx ry ⟨e, by simpa using q⟩
  · exact op_isBl pins s σ H x y v u Q I rx ry ⟨a, b, e1, e2, by simpa using q⟩
theorem op_isnotD {X : Cx} : OpR X (compareOp .IsNot) (rIs true) := fun pins s σ H x y v u Q I rx ry h => by
  rcases h with ⟨e, q⟩ | ⟨a, b, e1, e2, q⟩
  · exact op_notN pins s σ H x y v u Q I rx ry ⟨e, by simpa using q⟩
  · exact op_notBl pins s σ H x y v u Q I rx ry ⟨a, b, e1, e2, by simpa using q⟩
theorem isD_ok {C : RC} (neg : Bool) : OpD C (rIs neg) (fun a b => if a.isOwn then M.stuck else M.look fun s => isD neg s a b) := by
  intro W F μ s σ H x y d e Q r hx hy h
  cases ow : d.isOwn with
  | true => simp only [ow, if_true] at h; exact (res_stuck h).elim
  | false =>
    simp only [ow, Bool.false_eq_true, if_false] at h
    obtain ⟨z, ez, k⟩ := res_look h
    unfold isD at ez
    split at ez
    · cases ez
      cases At.non_inv hy
      exact .inl ⟨rfl, by rw [isNon_at r hx ow]; exact k H (.refl r) _ (.of (.bl _))⟩
    · split at ez
      · cases ez
        cases At.bl_inv hy
        cases At.bl_inv hx
        exact .inr ⟨_, _, rfl, rfl, k H (.refl r) _ (.of (.bl _))⟩
      · cases ez
    · cases ez
abbrev fIs : D → D → M D := fun a b => if a.isOwn then M.stuck else M.look fun s => isD false s a b
abbrev fIsNot : D → D → M D := fun a b => if a.isOwn then M.stuck else M.look fun s => isD true s a b
/-! ### in -/
def key1 : D → Option Key
  | .int i => some (.inl i)
  | .str x => some (.inr x)
  | _ => none
def keyQ : D → Option (Key ⊕ List Key)
  | .int i => some (.inl (.inl i))
  | .str x => some (.inl (.inr x))
  | .tup l => (l.mapM key1).map .inr
  | _ => none
def D.dct? (s : Sta) : D → Option (Nat × List D × List D)
  | .dct t ks ds => some (t, ks, ds)
  | .own i => match s.ρ[i]? with
    | some (.own (.dct t ks ds)) => some (t, ks, ds)
    | _ => none
  | .ref g => match s.G[g]? with
    | some (.dct t ks ds) => some (t, ks, ds)
    | _ => none
  | _ => none
/-- what stands at a key -/
def dGet : List D → List D → (Key ⊕ List Key) → Option D
  | k :: ks, d :: ds, q => if keyQ k = some q then some d else dGet ks ds q
  | _, _, _ => none
theorem Rep.dct? {C : RC} {F : Addr → Prop} {μ : List Addr} {s : Sta} {σ : L2.St} {H : Hp} (r : Rep C F μ s σ H) {x : V} {d : D} {t : Nat} {ks ds : List D} (h : AtX C F μ s σ H x d) (e : d.dct? s = some (t, ks, ds)) : ∃ a vs, x = .ref a ∧ DctH t H a ks vs ∧ AtL C (Tab F μ s σ) μ H vs ds := by
  unfold D.dct? at e
  split at e
  · cases e
    obtain ⟨a, vs, rfl, _, f, c⟩ := At.dct_inv h
    exact ⟨a, vs, rfl, f, c⟩
  · rename_i i
    split at e
    · rename_i e1
      cases e
      obtain ⟨a, ea, vs, q, c⟩ := r.slots i _ e1
      have h' : σ[i]? = some (some x) := h
      rw [h'] at ea
      cases ea
      exact ⟨a, vs, rfl, q, c⟩
    · cases e
  · rename_i g
    split at e
    · rename_i e1
      cases e
      obtain ⟨a, rfl, ea⟩ := At.ref_inv h
      obtain ⟨b, eb, vs, q, c⟩ := r.objs g _ e1
      rw [ea] at eb
      cases eb
      exact ⟨a, vs, rfl, q, c⟩
    · cases e
  · cases e
theorem keyQ_D (k : Key) : keyQ (keyD k) = some (.inl k) := by cases k <;> rfl
theorem keyQ_T (k : List Key) : keyQ (.tup (k.map keyD)) = some (.inr k) := by
  have e : ∀ l : List Key, (l.map keyD).mapM key1 = some l := by
    intro l
    induction l with
    | nil => rfl
    | cons a l ih =>
      rw [List.map_cons, List.mapM_cons, ih]
      cases a <;> rfl
  show Option.map Sum.inr ((k.map keyD).mapM key1) = _
  rw [e]
  rfl
theorem keyQ_inl {d : D} {k : Key} (h : keyQ d = some (.inl k)) : d = keyD k := by
  unfold keyQ at h
  split at h
  · cases h; rfl
  · cases h; rfl
  · obtain ⟨_, _, e⟩ := Option.map_eq_some_iff.mp h
    cases e
  · cases h
theorem keyQ_inr {d : D} {k : List Key} (h : keyQ d = some (.inr k)) : d = .tup (k.map keyD) := by
  unfold keyQ at h
  split at h
  · cases h
  · cases h
  · rename_i l
    obtain ⟨k', e1, e⟩ := Option.map_eq_some_iff.mp h
    cases e
    congr 1
    clear h
    induction l generalizing k with
    | nil => simp at e1; subst e1; rfl
    | cons a l ih =>
      rw [List.mapM_cons] at e1
      obtain ⟨x, e2, e1⟩ := Option.bind_eq_some_iff.mp e1
      obtain ⟨y, e3, e1⟩ := Option.bind_eq_some_iff.mp e1
      cases e1
      rw [List.map_cons, ih e3]
      congr 1
      unfold key1 at e2
      split at e2
      · cases e2; rfl
      · cases e2; rfl
      · cases e2
  · cases h
/-- perhaps a value -/
def AtO (C : RC) (T : Addr → Prop) (μ : List Addr) (H : Hp) : Option V → Option D → Prop
  | some v, some d => At C T μ H v d
  | none, none => True
  | _, _ => False
theorem dGet_K {C : RC} {T : Addr → Prop} {μ : List Addr} {H : Hp} : ∀ {kvs : List (Key × V)} {ds : List D} (k : Key), AtL C T μ H (kvs.map (·.2)) ds → AtO C T μ H (valV kvs k) (dGet (kvs.map fun p => keyD p.1) ds (.inl k))
  | [], _, k, .nil => trivial
  | (a, v) :: kvs, _, k, .cons (d := d) (ds := ds) h t => by
    rw [List.map_cons, dGet, keyQ_D]
    by_cases e : a = k
    · subst e
      rw [if_pos rfl, show valV ((a, v) :: kvs) a = some v by simp [valV]]
      exact h
    · rw [if_neg (by simpa using e), show valV ((a, v) :: kvs) k = valV kvs k by simp [valV, e]]
      exact dGet_K k t
theorem dGet_T {C : RC} {T : Addr → Prop} {μ : List Addr} {H : Hp} : ∀ {kvs : List (List Key × V)} {ds : List D} (k : List Key), AtL C T μ H (kvs.map (·.2)) ds → AtO C T μ H (valV kvs k) (dGet (kvs.map fun p => D.tup (p.1.map keyD)) ds (.inr k))
  | [], _, k, .nil => trivial
  | (a, v) :: kvs, _, k, .cons (d := d) (ds := ds) h t => by
    rw [List.map_cons, dGet, keyQ_T]
    by_cases e : a = k
    · subst e
      rw [if_pos rfl, show valV ((a, v) :: kvs) a = some v by simp [valV]]
      exact h
    · rw [if_neg (by simpa using e), show valV ((a, v) :: kvs) k = valV kvs k by simp [valV, e]]
      exact dGet_T k t
theorem keyV_at {C : RC} {T : Addr → Prop} {μ : List Addr} {H : Hp} {k : Key} {v : V} (h : At C T μ H v (keyD k)) : v = kV k := by
  cases k with
  | inl i => exact h.int_inv
  | inr x => exact h.str_inv
theorem keysV_at {C : RC} {T : Addr → Prop} {μ : List Addr} {H : Hp} : ∀ {k : List Key} {vs : List V}, AtL C T μ H vs (k.map keyD) → vs = k.map kV
  | [], _, .nil => rfl
  | k :: ks, _, .cons h t => by rw [List.map_cons, keyV_at h, keysV_at t]
/-- the key is of the dict's kind -/
def keyIn : Nat → (Key ⊕ List Key) → Bool
  | 0, .inl _ => true
  | 1, .inr (_ :: _) => true
  | _, _ => false
/-- what a dict tells of a key -/
def dLook (s : Sta) (d k : D) : Option (Option D) := match d.dct? s, keyQ k with
  | some (t, ks, ds), some q => if keyIn t q then some (dGet ks ds q) else none
  | _, _ => none
theorem Rep.dLook {C : RC} {F : Addr → Prop} {μ : List Addr} {s : Sta} {σ : L2.St} {H : Hp} (r : Rep C F μ s σ H) {x y : V} {d k : D} {o : Option D} (hx : AtX C F μ s σ H x d) (hy : AtX C F μ s σ H y k) (e : Ms.dLook s d k = some o) :
    ∃ a ov, x = .ref a ∧ DGet H a y ov ∧ AtO C (Tab F μ s σ) μ H ov o := by
  unfold Ms.dLook at e
  split at e
  · rename_i t ks ds q e1 e2
    split at e
    · rename_i f
      cases e
      obtain ⟨a, vs, rfl, h, c⟩ := r.dct? hx e1
      rcases h with ⟨rfl, kvs, h, rfl, rfl⟩ | ⟨rfl, kvs, h, rfl, rfl⟩
      · cases q with
        | inr q => cases f
        | inl q =>
          cases keyQ_inl e2
          have hy2 : y = kV q := keyV_at (hy.at (by cases q <;> rfl))
          subst hy2
          exact ⟨a, _, rfl, .inl ⟨kvs, q, .inl h, rfl, rfl⟩, dGet_K q c⟩
      · cases q with
        | inl q => cases f
        | inr q =>
          cases keyQ_inr e2
          obtain ⟨b, ws, rfl, hb, cw⟩ := At.tup_inv (hy.at rfl)
          cases keysV_at cw
          rcases hb with hb | hb
          · exact ⟨a, _, rfl, .inr ⟨kvs, q, b, .inl h, rfl, hb.2, rfl⟩, dGet_T q c⟩
          · obtain ⟨z, _⟩ := hb
            cases q with
            | nil => cases f
            | cons x q => cases z
    · cases e
  · cases e
end Ms
/-! Ms4: in, subscripts, tests, displays, conditions. -/
namespace Ms
open PySem PySem.Spec PyProof.Rows L2
/-! ### in -/
def flatD : D → Bool
  | .non | .bl _ | .int _ | .str _ => true
  | _ => false
def eqF : D → D → Bool
  | .non, .non => true
  | .bl a, .bl b => a == b
  | .bl a, .int b => (if a then 1 else 0) == b
  | .int a, .bl b => a == (if b then 1 else 0)
  | .int a, .int b => a == b
  | .str a, .str b => a == b
  | _, _ => false
def inD (s : Sta) (a b : D) : Option Bool := match b with
  | .str z => match a with
    | .str x => match x.cps.toList with
      | [c] => some (decide (c ∈ z.cps.toList))
      | _ => none
    | _ => none
  | .tup l => if flatD a && l.all flatD then some (l.any fun d => eqF d a) else none
  | b => match dLook s b a with
    | some o => some o.isSome
    | none => match a.pyS s, b.pyS s with
      | some d, some (.list ds) => if SeqAt.shaped d && SeqAt.shaped (.list ds) then some (ds.any fun z => PyData.eqv z d) else none
      | _, _ => none
def rInAll (K : PySem.W.Frag) (neg : Bool) : R2 := fun x y H Q =>
  (∃ (c : Nat) (z : Str), x = .str ⟨#[c]⟩ ∧ y = .str z ∧ Q (.bl (decide (c ∈ z.cps.toList) != neg)) H) ∨
  (∃ p xs, y = .ref p ∧ SqT K H p xs ∧ flatV x = true ∧ xs.all flatV = true ∧ Q (.bl (inV x xs != neg)) H) ∨
  (∃ a ov, y = .ref a ∧ DGet H a x ov ∧ Q (.bl (ov.isSome != neg)) H) ∨
  (∃ d ds, Dp K H x d ∧ Dp K H y (.list ds) ∧ SeqAt.shaped d = true ∧ SeqAt.shaped (.list ds) = true ∧ Q (.bl ((ds.any fun z => PyData.eqv z d) != neg)) H)
section
variable {X : Cx}
theorem op_inAll (hu : X.A.units + 65 < cLine) : OpR X (compareOp .In) (rInAll X.K false) := by
  intro pins s σ H x y v u Q I rx ry h
  rcases h with ⟨c, z, e1, e2, q⟩ | ⟨p, xs, e1, h1, h2, h3, q⟩ | ⟨a, ov, rfl, g, q⟩ | ⟨d, ds, h1, h2, h3, h4, q⟩
  · exact op_in_sign pins s σ H x y v u Q I rx ry ⟨c, z, e1, e2, by simpa using q⟩
  · exact op_in_seq pins s σ H x y v u Q I rx ry ⟨p, xs, e1, .inr h1, h2, h3, by simpa using q⟩
  · obtain rfl : u = Value.ref a := ry
    exact d_in (by omega) I g rx fun s3 I3 => ⟨.bl ov.isSome, H, I3, rfl, by simpa using q⟩
  · exact op_inD hu pins s σ H x y v u Q I rx ry ⟨d, ds, h1, h2, h3, h4, by simpa using q⟩
theorem op_notInAll (hu : X.A.units + 65 < cLine) : OpR X (compareOp .NotIn) (rInAll X.K true) := by
  intro pins s σ H x y v u Q I rx ry h
  rcases h with ⟨c, z, e1, e2, q⟩ | ⟨p, xs, e1, h1, h2, h3, q⟩ | ⟨a, ov, rfl, g, q⟩ | ⟨d, ds, h1, h2, h3, h4, q⟩
  · exact op_notIn_sign pins s σ H x y v u Q I rx ry ⟨c, z, e1, e2, by simpa using q⟩
  · exact op_notIn_seq pins s σ H x y v u Q I rx ry ⟨p, xs, e1, .inr h1, h2, h3, by simpa using q⟩
  · obtain rfl : u = Value.ref a := ry
    exact d_notIn (by omega) I g rx fun s3 I3 => ⟨.bl (!ov.isSome), H, I3, rfl, by simpa using q⟩
  · exact op_notInD hu pins s σ H x y v u Q I rx ry ⟨d, ds, h1, h2, h3, h4, by simpa using q⟩
end
section
variable {C : RC} {T : Addr → Prop} {μ : List Addr} {H : Hp}
theorem flat_at {v : V} {d : D} (h : At C T μ H v d) (f : flatD d = true) : flatV v = true := by
  cases h <;> first | rfl | cases f
theorem eqF_at {v w : V} {d e : D} (h : At C T μ H v d) (h' : At C T μ H w e) (f : flatD d = true) (f' : flatD e = true) : eqV v w = eqF d e := by
  cases h <;> cases h' <;> first
    | rfl
    | exact absurd f (by simp [flatD])
    | exact absurd f' (by simp [flatD])
theorem flats_at : ∀ {vs : List V} {ds : List D}, AtL C T μ H vs ds → ds.all flatD = true → vs.all flatV = true
  | _, _, .nil, _ => rfl
  | _, _, .cons h t, f => by
    rw [List.all_cons, Bool.and_eq_true] at f ⊢
    exact ⟨flat_at h f.1, flats_at t f.2⟩
theorem any_at {w : V} {e : D} (h' : At C T μ H w e) (f' : flatD e = true) : ∀ {vs : List V} {ds : List D}, AtL C T μ H vs ds → ds.all flatD = true → inV w vs = ds.any fun d => eqF d e
  | _, _, .nil, _ => rfl
  | _, _, .cons h t, f => by
    rw [List.all_cons, Bool.and_eq_true] at f
    have ih := any_at h' f' t f.2
    unfold inV at ih ⊢
    rw [List.any_cons, List.any_cons, ih, eqF_at h h' f.1 f']
end
abbrev fIn (neg : Bool) : D → D → M D := fun a b => if a.isOwn then M.stuck else M.look fun s => (inD s a b).map fun k => .bl (k != neg)
theorem inD_ok {C : RC} (neg : Bool) : OpD C (rInAll C.K neg) (fIn neg) := by
  intro W F μ s σ H x y d e Q r hx hy h
  cases ow : d.isOwn with
  | true => simp only [fIn, ow, if_true] at h; exact (res_stuck h).elim
  | false =>
    simp only [fIn, ow, Bool.false_eq_true, if_false] at h
    obtain ⟨z, ez, k⟩ := res_look h
    obtain ⟨b, eb, rfl⟩ := Option.map_eq_some_iff.mp ez
    have kk := k H (.refl r) _ (.of (.bl _))
    unfold inD at eb
    split at eb
    · split at eb
      · split at eb
        · rename_i x' _ c ec
          cases eb
          cases at_str hx
          cases at_str hy
          refine .inl ⟨c, _, ?_, rfl, kk⟩
          have e9 : x'.cps = #[c] := Array.toList_inj.mp ec
          cases x'
          simp only at e9
          rw [e9]
        · cases eb
      · cases eb
    · split at eb
      · rename_i l c
        cases eb
        rw [Bool.and_eq_true] at c
        obtain ⟨p, vs, rfl, hp, cc⟩ := At.tup_inv hy
        exact .inr (.inl ⟨p, vs, rfl, SqTA.sq hp, flat_at (hx.at ow) c.1, flats_at cc c.2, by rw [any_at (hx.at ow) c.1 cc c.2]; exact kk⟩)
      · cases eb
    · split at eb
      · rename_i o e1
        cases eb
        obtain ⟨a, ov, rfl, g, q⟩ := r.dLook hy hx e1
        refine .inr (.inr (.inl ⟨a, ov, rfl, g, ?_⟩))
        have : ov.isSome = o.isSome := by
          cases ov <;> cases o <;> first | rfl | exact q.elim
        rw [this]
        exact kk
      · split at eb
        · rename_i p ps e2 e3
          split at eb
          · rename_i c
            cases eb
            rw [Bool.and_eq_true] at c
            exact .inr (.inr (.inr ⟨p, ps, r.pyS hx e2, r.pyS hy e3, c.1, c.2, kk⟩))
          · cases eb
        · cases eb
/-! ### subscripts -/
def ixD (s : Sta) (a b : D) : Option D := match b with
  | .int i => match a with
    | .tup l => atI l i
    | .str z => if lenOk z.length then (atI z.cps.toList i).map fun c => .str ⟨#[c]⟩ else none
    | .scr l => (atI l i).map .int
    | a => match a.seqL s with
      | some l => atI l i
      | none => (dLook s a b).join
  | b => (dLook s a b).join
theorem atI_get {α β : Type} {xs : List α} {ys : List β} {i : Int} {y : β} (l : xs.length = ys.length) (h : atI ys i = some y) : ∃ (j : Nat) (x : α), atI xs i = some x ∧ xs[j]? = some x ∧ ys[j]? = some y := by
  unfold atI at h ⊢
  obtain ⟨j, e, h⟩ := Option.bind_eq_some_iff.mp h
  rw [l, e]
  obtain ⟨hj, _⟩ := List.getElem?_eq_some_iff.mp h
  have hx : j < xs.length := by omega
  exact ⟨j, xs[j], by simp [List.getElem?_eq_getElem hx], List.getElem?_eq_getElem hx, h⟩
def rIxAll (K : PySem.W.Frag) : R2 := fun x y H Q => rIxL K x y H Q ∨ rIxT K x y H Q ∨ rIxS x y H Q ∨ ∃ a v, x = .ref a ∧ DGet H a y (some v) ∧ Q v H
section
variable {X : Cx} {W : WX} {a b e : Expr} {pos : Pos} {ma mb : M D}
theorem pe_ixAll {ta tb : TE} (hu : X.A.units + 1 < cLine) (ha : PE X a ta) (hb : PE X b tb) (hs : PlainIx b) : PE X (.Subscript a b pos) (tOp (rIxAll X.K) ta tb) := by
  refine ⟨fun pins s σ H Q I h => ?_⟩
  refine Subscript_ (binT ha hb I h fun v u s2 x y H2 I2 rx ry q => ?_)
  rcases q with q | q | q | ⟨p, w, rfl, g, q⟩
  · exact ix_list a b pins s2 σ H2 x y v u Q I2 rx ry q (hs _ _)
  · exact ix_tup a b pins s2 σ H2 x y v u Q I2 rx ry q (hs _ _)
  · exact ix_str a b pins s2 σ H2 x y v u Q I2 rx ry q (hs _ _)
  · obtain rfl : v = Value.ref p := rx
    exact tail_any (dict_typeIs I2 g) PySem.F.slot_dict_getitem.lookup (d_getItem hu I2 g ry fun u' s3 I3 r' => ⟨w, H2, I3, r', q⟩) (hs _ _)
end
end Ms
/-! Ms5: expressions. -/
namespace Ms
open PySem PySem.Spec PyProof.Rows L2
/-! ### room -/
theorem hu65 {k : Nat} {A : Around} (hr : A.units + 16 * k + 200 < cLine) : A.units + 65 < cLine := by omega
section
variable {X : Cx} {W : WX} {a b c e o : Expr} {es rest : List Expr} {pos p2 : Pos} {ma mb mc : M D} {op op' : CmpOp}
/-- the room of this frame -/
abbrev Rm (X : Cx) : Prop := X.A.units + 200 < cLine
theorem Rm.u64 (h : Rm X) : X.A.units + 64 < cLine := by have : X.A.units + 200 < cLine := h; omega
theorem Rm.u65 (h : Rm X) : X.A.units + 65 < cLine := by have : X.A.units + 200 < cLine := h; omega
theorem Rm.u1 (h : Rm X) : X.A.units + 1 < cLine := by have : X.A.units + 200 < cLine := h; omega
/-! ### comparisons -/
structure CmpD (X : Cx) (op : CmpOp) (f : D → D → M D) : Prop where
  ex : ∃ r : R2, OpR X (compareOp op) r ∧ OpD (XC X) r f
theorem cEq (h : Rm X) : CmpD X .Eq fEq := ⟨_, op_eq.or (op_eqD h.u64), eqD_ok (C := XC X) (K := fun b => b) (fun _ _ _ _ h q => ⟨h, q⟩) fun _ _ _ _ d e h1 h2 h3 h4 q => ⟨d, e, h1, h2, h3, h4, q⟩⟩
theorem cNe (h : Rm X) : CmpD X .NotEq fNe := ⟨_, op_ne.or (op_neD h.u64), eqD_ok (C := XC X) (K := fun b => !b) (fun _ _ _ _ h q => ⟨h, q⟩) fun _ _ _ _ d e h1 h2 h3 h4 q => ⟨d, e, h1, h2, h3, h4, q⟩⟩
theorem cLt (h : Rm X) : CmpD X .Lt fLt := ⟨_, op_lt.or (op_ltD h.u64), ltD_ok⟩
theorem cLe : CmpD X .LtE (fInt gLe) := ⟨_, op_le, intD_ok0 fun i j z e T μ H => by cases e; exact .bl _⟩
theorem cGt : CmpD X .Gt (fInt gGt) := ⟨_, op_gt, intD_ok0 fun i j z e T μ H => by cases e; exact .bl _⟩
theorem cGe : CmpD X .GtE (fInt gGe) := ⟨_, op_ge, intD_ok0 fun i j z e T μ H => by cases e; exact .bl _⟩
theorem cIs : CmpD X .Is fIs := ⟨_, op_isD, isD_ok false⟩
theorem cIsNot : CmpD X .IsNot fIsNot := ⟨_, op_isnotD, isD_ok true⟩
theorem cIn (h : Rm X) : CmpD X .In (fIn false) := ⟨_, op_inAll h.u65, inD_ok false⟩
theorem cNotIn (h : Rm X) : CmpD X .NotIn (fIn true) := ⟨_, op_notInAll h.u65, inD_ok true⟩
theorem d_cmp {f : D → D → M D} (h : CmpD X op f) (ha : PE X a (tD (XC X) W ma)) (hb : PE X b (tD (XC X) W mb)) (hm : behindInMarks op b = false) : PE X (.Compare a [op] [b] pos) (tD (XC X) W (M.op2 f ma mb)) := by
  obtain ⟨r, h1, h2⟩ := h.ex
  exact peImp (pe_cmpR h1 ha hb hm) (tD_op h2)
/-- a truth value -/
def M.bool (m : M D) : M Bool := do
  match ← m with
  | .bl b => pure b
  | _ => M.stuck
theorem res_bool {α : Type} {C : RC} {F : Addr → Prop} {μ : List Addr} {s : Sta} {σ : L2.St} {H : Hp} {d : D} {k : Bool → M α} {K : α → List Addr → Sta → Hp → Prop} (r : Rep C F μ s σ H)
    (h : Res C W F μ s σ H ((match d with | .bl b => (pure b : M Bool) | _ => M.stuck) >>= k) K) : ∃ b, d = .bl b ∧ Res C W F μ s σ H (k b) K := by
  cases d with
  | bl b => exact ⟨b, rfl, h.split.pure r⟩
  | _ => exact (res_stuck h.split).elim
theorem tDB_bool {m : M D} {t : TE} (i : ∀ σ H Q, tD (XC X) W m σ H Q → t σ H Q) (σ : L2.St) (H : Hp) (Q : Bool → Hp → Prop) (h : tDB (XC X) W (M.bool m) σ H Q) : tTest t σ H Q := by
  obtain ⟨F, μ, s, r, q⟩ := h
  refine i σ H _ ⟨F, μ, s, r, q.split.imp fun d μ1 s1 H1 x1 h1 v hv => ?_⟩
  cases d with
  | bl b =>
    cases At.bl_inv hv
    exact ⟨b, rfl, h1.pure x1.rep⟩
  | _ => exact (res_stuck h1).elim
theorem dt_cmp {f : D → D → M D} (h : CmpD X op f) (ha : PE X a (tD (XC X) W ma)) (hb : PE X b (tD (XC X) W mb)) (hm : behindInMarks op b = false) : PT X (.Compare a [op] [b] pos) (tDB (XC X) W (M.bool (M.op2 f ma mb))) := by
  obtain ⟨r, h1, h2⟩ := h.ex
  exact ptImp (pt_cmpR h1 ha hb hm) (tDB_bool (X := X) (tD_op h2))
/-- a op b op' c -/
def M.chain (f g : D → D → M D) (a b c : M D) : M D := do
  let x ← a
  let y ← b
  let k ← M.bool (f x y)
  if k then do
    let z ← c
    g y z
  else pure (.bl false)
theorem tD_chain {r r' : R2} {f g : D → D → M D} (hr : OpD (XC X) r f) (hr' : OpD (XC X) r' g) (σ : L2.St) (H : Hp) (Q : VK) (h : tD (XC X) W (M.chain f g ma mb mc) σ H Q) :
    tChain r r' (tD (XC X) W ma) (tD (XC X) W mb) (tD (XC X) W mc) σ H Q := by
  obtain ⟨F, μ, s, rp, h⟩ := h
  refine ⟨F, μ, s, rp, h.split.imp fun d μ1 s1 H1 x1 h1 v hv => ⟨F, μ1, s1, x1.rep, h1.split.imp fun e μ2 s2 H2 x2 h2 w hw => ?_⟩⟩
  refine hr x2.rep (x2.atX hv) hw (W := W) (h2.split.split.imp fun z μ3 s3 H3 x3 h3 u hu => ?_)
  cases z with
  | bl k =>
    cases At.bl_inv hu
    refine ⟨k, rfl, ?_⟩
    have h4 := h3.pure x3.rep
    cases k with
    | true =>
      rw [if_pos rfl] at h4 ⊢
      exact ⟨F, μ3, s3, x3.rep, h4.split.imp fun z μ4 s4 H4 x4 h4 u hu => hr' x4.rep (x4.atX (x3.atX hw)) hu h4⟩
    | false =>
      rw [if_neg (by simp)] at h4 ⊢
      exact h4.pure x3.rep _ (.of (.bl _))
  | _ => exact (res_stuck h3).elim
theorem d_chain {f g : D → D → M D} (h : CmpD X op f) (h' : CmpD X op' g) (ha : PE X a (tD (XC X) W ma)) (hb : PE X b (tD (XC X) W mb)) (hc : PE X c (tD (XC X) W mc)) (hm : lastMarks [op, op'] [b, c] = false := by with_unfolding_all rfl) :
    PE X (.Compare a [op, op'] [b, c] pos) (tD (XC X) W (M.chain f g ma mb mc)) := by
  obtain ⟨r, h1, h2⟩ := h.ex
  obtain ⟨r', h3, h4⟩ := h'.ex
  exact peImp (pe_chain h1 h3 ha hb hc hm) (tD_chain h2 h4)
theorem dt_chain {f g : D → D → M D} (h : CmpD X op f) (h' : CmpD X op' g) (ha : PE X a (tD (XC X) W ma)) (hb : PE X b (tD (XC X) W mb)) (hc : PE X c (tD (XC X) W mc)) (hm : lastMarks [op, op'] [b, c] = false := by with_unfolding_all rfl) :
    PT X (.Compare a [op, op'] [b, c] pos) (tDB (XC X) W (M.bool (M.chain f g ma mb mc))) := by
  obtain ⟨r, h1, h2⟩ := h.ex
  obtain ⟨r', h3, h4⟩ := h'.ex
  exact ptImp (pt_chain h1 h3 ha hb hc hm) (tDB_bool (X := X) (tD_chain h2 h4))
/-! ### truth -/
def truD (s : Sta) : D → Option Bool
  | .non => some false
  | .bl b => some b
  | .int i => some (i != 0)
  | .str x => if lenOk x.length then some ((x.length : Int) != 0) else none
  | .tup l => some (!l.isEmpty)
  | d => match d.seqL s with
    | some l => some (!l.isEmpty)
    | none => none
def M.tru (d : D) : M Bool := fun s => match truD s d with
  | some b => .ok b s
  | none => .stuck
def M.truth (m : M D) : M Bool := do M.tru (← m)
theorem res_truM {C : RC} {F : Addr → Prop} {μ : List Addr} {s : Sta} {σ : L2.St} {H : Hp} {d : D} {K : Bool → List Addr → Sta → Hp → Prop} (r : Rep C F μ s σ H) (h : Res C W F μ s σ H (M.tru d) K) : ∃ b, truD s d = some b ∧ K b μ s H := by
  unfold Res M.tru at h
  cases e : truD s d with
  | none => simp only [e] at h
  | some b =>
    simp only [e] at h
    exact ⟨b, rfl, h μ H (.refl r)⟩
theorem empty_at {C : RC} {T : Addr → Prop} {μ : List Addr} {H : Hp} {vs : List V} {ds : List D} (h : AtL C T μ H vs ds) : (!vs.isEmpty) = !ds.isEmpty := by
  cases h <;> rfl
theorem tru_at {C : RC} {F : Addr → Prop} {μ : List Addr} {s : Sta} {σ : L2.St} {H : Hp} {x : V} {d : D} {b : Bool} (r : Rep C F μ s σ H) (h : AtX C F μ s σ H x d) (e : truD s d = some b) : TruV C.K x H b := by
  have lists : ∀ l, d.seqL s = some l → b = (!l.isEmpty) → TruV C.K x H b := fun l e1 e2 => by
    obtain ⟨a, vs, rfl, hp, c⟩ := r.seqL h e1
    exact .inl ⟨vs, .of hp, by rw [e2, empty_at c]⟩
  unfold truD at e
  split at e
  · cases e; cases At.non_inv h; rfl
  · cases e; cases At.bl_inv h; rfl
  · cases e; cases at_int (T := F) h; rfl
  · split at e
    · rename_i l
      cases e; cases at_str h
      exact ⟨lenOk_line l, rfl⟩
    · cases e
  · cases e
    obtain ⟨a, vs, rfl, hp, c⟩ := At.tup_inv h
    exact .inr (.inl ⟨vs, SqTA.sq hp, by rw [empty_at c]⟩)
  · split at e
    · rename_i l e1
      cases e
      exact lists _ e1 rfl
    · cases e
theorem dt_truth {m : M D} (h : PE X a (tD (XC X) W m)) (he : ∀ whole, isTrue a X.env whole = (do let v ← whole; standAt a.pos; holding [v] (truthy v)) := by intro _; rfl) : PT X a (tDB (XC X) W (M.truth m)) :=
  ptImp (pt_truth h he) fun σ H Q ⟨F, μ, s, r, q⟩ => ⟨F, μ, s, r, q.split.imp fun d μ1 s1 H1 x1 h1 v hv => by
    obtain ⟨b, e, h1⟩ := res_truM x1.rep h1
    exact ⟨b, tru_at x1.rep hv e, h1⟩⟩
def M.not (m : M Bool) : M Bool := do pure (!(← m))
def M.and2 (a b : M Bool) : M Bool := do if ← a then b else pure false
def M.or2 (a b : M Bool) : M Bool := do if ← a then pure true else b
variable {na nb : M Bool}
theorem dt_not (h : PT X a (tDB (XC X) W na)) : PT X (.UnaryOp .Not a pos) (tDB (XC X) W (M.not na)) :=
  ptImp (pt_not h) fun σ H Q ⟨F, μ, s, r, q⟩ => ⟨F, μ, s, r, q.split.imp fun b μ1 s1 H1 x1 h1 => h1.pure x1.rep⟩
theorem dw_and1 (h : PT X a (tDB (XC X) W na)) : PW X (.BoolOp .And [a] pos) (tDB (XC X) W na) := pw_and1 h
theorem dw_or1 (h : PT X a (tDB (XC X) W na)) : PW X (.BoolOp .Or [a] pos) (tDB (XC X) W na) := pw_or1 h
theorem dw_and (h : PT X a (tDB (XC X) W na)) (h2 : PW X (.BoolOp .And (b :: rest) pos) (tDB (XC X) W nb)) : PW X (.BoolOp .And (a :: b :: rest) pos) (tDB (XC X) W (M.and2 na nb)) :=
  pwImp (pw_and h h2) fun σ H Q ⟨F, μ, s, r, q⟩ => ⟨F, μ, s, r, q.split.imp fun b μ1 s1 H1 x1 h1 => by
    cases b with
    | true => rw [if_pos rfl] at h1 ⊢; exact ⟨F, μ1, s1, x1.rep, h1⟩
    | false => rw [if_neg (by simp)] at h1 ⊢; exact h1.pure x1.rep⟩
theorem dw_or (h : PT X a (tDB (XC X) W na)) (h2 : PW X (.BoolOp .Or (b :: rest) pos) (tDB (XC X) W nb)) : PW X (.BoolOp .Or (a :: b :: rest) pos) (tDB (XC X) W (M.or2 na nb)) :=
  pwImp (pw_or h h2) fun σ H Q ⟨F, μ, s, r, q⟩ => ⟨F, μ, s, r, q.split.imp fun b μ1 s1 H1 x1 h1 => by
    cases b with
    | true => rw [if_pos rfl] at h1 ⊢; exact h1.pure x1.rep
    | false => rw [if_neg (by simp)] at h1 ⊢; exact ⟨F, μ1, s1, x1.rep, h1⟩⟩
/-- values by their truth -/
def M.andV (a b : M D) : M D := do
  let x ← a
  if ← M.tru x then b else pure x
def M.orV (a b : M D) : M D := do
  let x ← a
  if ← M.tru x then pure x else b
def M.notV (a : M D) : M D := do pure (.bl (!(← M.truth a)))
theorem d_one (h : PE X a (tD (XC X) W ma)) {op : BoolOp} : PE X (.BoolOp op [a] pos) (tD (XC X) W ma) := pe_one h
theorem d_and (h : PE X a (tD (XC X) W ma)) (h2 : PE X (.BoolOp .And (b :: rest) pos) (tD (XC X) W mb)) : PE X (.BoolOp .And (a :: b :: rest) pos) (tD (XC X) W (M.andV ma mb)) :=
  peImp (pe_andT h h2) fun σ H Q ⟨F, μ, s, r, q⟩ => ⟨F, μ, s, r, q.split.imp fun d μ1 s1 H1 x1 h1 v hv => by
    obtain ⟨k, e, h1⟩ := res_truM x1.rep h1.split
    refine ⟨k, tru_at x1.rep hv e, ?_⟩
    cases k with
    | true => rw [if_pos rfl] at h1 ⊢; exact ⟨F, μ1, s1, x1.rep, h1⟩
    | false => rw [if_neg (by simp)] at h1 ⊢; exact h1.pure x1.rep v hv⟩
theorem d_or (h : PE X a (tD (XC X) W ma)) (h2 : PE X (.BoolOp .Or (b :: rest) pos) (tD (XC X) W mb)) : PE X (.BoolOp .Or (a :: b :: rest) pos) (tD (XC X) W (M.orV ma mb)) :=
  peImp (pe_orT h h2) fun σ H Q ⟨F, μ, s, r, q⟩ => ⟨F, μ, s, r, q.split.imp fun d μ1 s1 H1 x1 h1 v hv => by
    obtain ⟨k, e, h1⟩ := res_truM x1.rep h1.split
    refine ⟨k, tru_at x1.rep hv e, ?_⟩
    cases k with
    | true => rw [if_pos rfl] at h1 ⊢; exact h1.pure x1.rep v hv
    | false => rw [if_neg (by simp)] at h1 ⊢; exact ⟨F, μ1, s1, x1.rep, h1⟩⟩
theorem d_not (h : PE X a (tD (XC X) W ma)) : PE X (.UnaryOp .Not a pos) (tD (XC X) W (M.notV ma)) :=
  peImp (pe_notT h) fun σ H Q ⟨F, μ, s, r, q⟩ => ⟨F, μ, s, r, q.split.split.imp fun d μ1 s1 H1 x1 h1 v hv => by
    obtain ⟨b, e, h1⟩ := res_truM x1.rep h1
    exact ⟨b, tru_at x1.rep hv e, h1.pure x1.rep _ (.of (.bl _))⟩⟩
def M.ite (t : M Bool) (a b : M D) : M D := do if ← t then a else b
theorem d_if (hc : PT X c (tDB (XC X) W na)) (ha : PE X a (tD (XC X) W ma)) (hb : PE X b (tD (XC X) W mb)) : PE X (.IfExp c a b pos) (tD (XC X) W (M.ite na ma mb)) :=
  peImp (pe_ifExp hc ha hb) fun σ H Q ⟨F, μ, s, r, q⟩ => ⟨F, μ, s, r, q.split.imp fun k μ1 s1 H1 x1 h1 => by
    cases k with
    | true => rw [if_pos rfl] at h1 ⊢; exact ⟨F, μ1, s1, x1.rep, h1⟩
    | false => rw [if_neg (by simp)] at h1 ⊢; exact ⟨F, μ1, s1, x1.rep, h1⟩⟩
def negD : D → Option D
  | .int i => some (.int (-i))
  | _ => none
theorem d_neg (h : PE X a (tD (XC X) W ma)) : PE X (.UnaryOp .USub a pos) (tD (XC X) W (do M.opt (negD (← ma)))) :=
  peImp (pe_un un_neg h) fun σ H Q ⟨F, μ, s, r, q⟩ => ⟨F, μ, s, r, q.split.imp fun d μ1 s1 H1 x1 h1 v hv => by
    obtain ⟨z, e, k⟩ := res_opt x1.rep h1
    unfold negD at e
    split at e
    · cases e
      cases at_int (T := F) hv
      exact ⟨_, rfl, k _ (.of (.int _))⟩
    · cases e⟩
/-! ### subscripts, slices -/
abbrev fIx : D → D → M D := fun a b => if b.isOwn then M.stuck else M.look fun s => ixD s a b
theorem ixD_ok {C : RC} : OpD C (rIxAll C.K) fIx := by
  intro W F μ s σ H x y d e Q r hx hy h
  cases ow : e.isOwn with
  | true => simp only [fIx, ow, if_true] at h; exact (res_stuck h).elim
  | false =>
    simp only [fIx, ow, Bool.false_eq_true, if_false] at h
    obtain ⟨z, ez, k⟩ := res_look h
    have kk : ∀ {v : V}, AtX C F μ s σ H v z → Q v H := fun {v} => k H (.refl r) v
    have dicts : (Ms.dLook s d e).join = some z → rIxAll C.K x y H Q := fun ez => by
      have e1 : Ms.dLook s d e = some (some z) := Option.join_eq_some_iff.mp ez
      obtain ⟨a, ov, rfl, g, q⟩ := r.dLook hx hy e1
      cases ov with
      | none => exact q.elim
      | some v => exact .inr (.inr (.inr ⟨a, v, rfl, g, kk (.of q)⟩))
    unfold ixD at ez
    split at ez
    · cases at_int (T := F) hy
      split at ez
      · obtain ⟨a, vs, rfl, hp, c⟩ := At.tup_inv hx
        obtain ⟨j, v, e1, e2, e3⟩ := atI_get c.length ez
        exact .inr (.inl ⟨a, vs, _, v, rfl, rfl, SqTA.sq hp, e1, kk (.of (c.get e2 e3))⟩)
      · split at ez
        · rename_i l
          obtain ⟨c, e1, rfl⟩ := Option.map_eq_some_iff.mp ez
          cases at_str hx
          exact .inr (.inr (.inl ⟨_, _, c, rfl, rfl, lenOk_line l, e1, kk (.of (.str _))⟩))
        · cases ez
      · rename_i l
        obtain ⟨c, e1, rfl⟩ := Option.map_eq_some_iff.mp ez
        obtain ⟨a, rfl, hq⟩ := At.scr_inv hx
        · skip
          obtain ⟨j, v, e1, e2, e3⟩ := atI_get (xs := l.map V.int) (by simp) e1
          rw [List.getElem?_map, e3] at e2
          cases e2
          exact .inl ⟨_, _, _, _, rfl, rfl, hq, e1, kk (.of (.int _))⟩
      · split at ez
        · rename_i l e1
          obtain ⟨a, vs, rfl, hp, c⟩ := r.seqL hx e1
          obtain ⟨j, v, e1, e2, e3⟩ := atI_get c.length ez
          exact .inl ⟨a, vs, _, v, rfl, rfl, .of hp, e1, kk (.of (c.get e2 e3))⟩
        · exact dicts ez
    · exact dicts ez
theorem d_ix (h : Rm X) (ha : PE X a (tD (XC X) W ma)) (hb : PE X b (tD (XC X) W mb)) (hs : PlainIx b) : PE X (.Subscript a b pos) (tD (XC X) W (M.op2 fIx ma mb)) := peImp (pe_ixAll h.u1 ha hb hs) (tD_op ixD_ok)
def cutD (xs : List D) (lo hi : Option Int) : List D := (xs.drop (HT.sIx xs.length 0 lo)).take (HT.sIx xs.length xs.length hi - HT.sIx xs.length 0 lo)
theorem AtL.drop {C : RC} {T : Addr → Prop} {μ : List Addr} {H : Hp} : ∀ {vs : List V} {ds : List D} (n : Nat), AtL C T μ H vs ds → AtL C T μ H (vs.drop n) (ds.drop n)
  | _, _, 0, h => h
  | _, _, _ + 1, .nil => .nil
  | _, _, n + 1, .cons _ t => AtL.drop n t
theorem AtL.take {C : RC} {T : Addr → Prop} {μ : List Addr} {H : Hp} : ∀ {vs : List V} {ds : List D} (n : Nat), AtL C T μ H vs ds → AtL C T μ H (vs.take n) (ds.take n)
  | _, _, 0, _ => .nil
  | _, _, _ + 1, .nil => .nil
  | _, _, n + 1, .cons h t => .cons h (AtL.take n t)
theorem AtL.cut {C : RC} {T : Addr → Prop} {μ : List Addr} {H : Hp} {vs : List V} {ds : List D} (h : AtL C T μ H vs ds) (lo hi : Option Int) : AtL C T μ H (cutV vs lo hi) (cutD ds lo hi) := by
  unfold cutV cutD
  rw [h.length]
  exact (h.drop _).take _
def slD (s : Sta) (a : D) (lo hi : Option Int) : Option D := match a with
  | .tup l => some (.tup (cutD l lo hi))
  | .str z => if lenOk z.length then some (.str (cutS z lo hi)) else none
  | a => (a.seqL s).map fun l => .lst (cutD l lo hi)
def M.part : Option (M D) → M (Option Int)
  | none => pure none
  | some m => do
    match ← m with
    | .int i => pure (some i)
    | _ => M.stuck
def M.slice (a : M D) (lo hi : Option (M D)) : M D := do
  let x ← a
  let l ← M.part lo
  let u ← M.part hi
  M.look fun s => slD s x l u
def tDO (C : RC) (W : WX) (m : M (Option Int)) : TO := fun σ H Q => ∃ F μ s, Rep C F μ s σ H ∧ Res C W F μ s σ H m fun o _ _ H' => Q o H'
theorem do_none : PO X none (tDO (XC X) W (M.part none)) := ⟨fun pins s σ H Q I ⟨F, μ, s', r, q⟩ => po_none.run pins s σ H Q I (q.pure r)⟩
theorem do_some {m : M D} (h : PE X a (tD (XC X) W m)) : PO X (some a) (tDO (XC X) W (M.part (some m))) := ⟨fun pins s σ H Q I ⟨F, μ, s', r, q⟩ => (po_some h).run pins s σ H Q I ⟨F, μ, s', r, q.split.imp fun d μ1 s1 H1 x1 h1 v hv => by
  cases d with
  | int i =>
    cases at_int (T := F) hv
    exact ⟨i, rfl, h1.pure x1.rep⟩
  | _ => exact (res_stuck h1).elim⟩⟩
theorem d_slice {lo hi : Option Expr} {ml mh : Option (M D)} (ha : PE X a (tD (XC X) W ma)) (hl : PO X lo (tDO (XC X) W (M.part ml))) (hh : PO X hi (tDO (XC X) W (M.part mh))) : PE X (.Subscript a (.Slice lo hi none p2) pos) (tD (XC X) W (M.slice ma ml mh)) := by
  refine peImp (pe_slice (sl_list.or (sl_tupA.or sl_str)) ha hl hh) fun σ H Q ⟨F, μ, s, r, q⟩ => ?_
  refine ⟨F, μ, s, r, q.split.imp fun d μ1 s1 H1 x1 h1 v hv => ⟨F, μ1, s1, x1.rep, h1.split.imp fun l μ2 s2 H2 x2 h2 => ⟨F, μ2, s2, x2.rep, h2.split.imp fun u μ3 s3 H3 x3 h3 => ?_⟩⟩⟩
  obtain ⟨z, ez, k⟩ := res_look h3
  have hv := x3.atX (x2.atX hv)
  have r := x3.rep
  unfold slD at ez
  split at ez
  · cases ez
    obtain ⟨p, vs, rfl, hp, c⟩ := At.tup_inv hv
    refine .inr (.inl ⟨p, vs, rfl, SqTA.sq hp, fun w => k _ (.refl r) _ ?_, fun w n hn => k _ (r.ext1 hn) _ (.of (r.newTup hn (c.cut l u)))⟩)
    have e : cutV vs l u = vs := by unfold cutV; rw [w.1, w.2]; simp
    have c2 := c.cut l u
    rw [e] at c2
    exact .of (.tupL hp c2)
  · split at ez
    · rename_i hl
      cases ez
      cases at_str hv
      exact .inr (.inr ⟨_, rfl, lenOk_line hl, k _ (.refl r) _ (.of (.str _))⟩)
    · cases ez
  · obtain ⟨xs, e1, rfl⟩ := Option.map_eq_some_iff.mp ez
    obtain ⟨p, vs, rfl, hp, c⟩ := r.seqL hv e1
    exact .inl ⟨p, vs, rfl, .of hp, fun n hn => k _ (r.ext1 hn) _ (.of (r.newLst hn (c.cut l u)))⟩
/-! ### displays -/
def M.tup (ms : List (M D)) : M D := do
  let ds ← M.args ms
  if lenOk ds.length then pure (.tup ds) else M.stuck
/-- a fresh list -/
def tDF (C : RC) (W : WX) (m : M (List D)) : TE := fun σ H Q => ∃ F μ s, Rep C F μ s σ H ∧ Res C W F μ s σ H m fun ds μ' s' H' => ∀ p vs, H' p = none → AtL C (Tab F μ' s' σ) μ' H' vs ds → Q (.ref p) (upd H' p (.lst vs))
def M.lst (m : M (List D)) : M D := do pure (.lst (← m))
def M.disp (ms : List (M D)) : M (List D) := do
  let ds ← M.args ms
  if lenOk ds.length then pure ds else M.stuck
theorem res_if {α : Type} {C : RC} {F : Addr → Prop} {μ : List Addr} {s : Sta} {σ : L2.St} {H : Hp} {b : Bool} {m : M α} {K : α → List Addr → Sta → Hp → Prop} (h : Res C W F μ s σ H (if b = true then m else M.stuck) K) : b = true ∧ Res C W F μ s σ H m K := by
  cases b with
  | true => exact ⟨rfl, h⟩
  | false => exact h.elim
theorem d_tup {ms : List (M D)} {k : Nat} (h : PA X es (tDA (XC X) W (M.args ms))) : PE X (.Tuple es k pos) (tD (XC X) W (M.tup ms)) :=
  peImp (pe_tup h) fun σ H Q ⟨F, μ, s, r, q⟩ => ⟨F, μ, s, r, q.split.imp fun ds μ1 s1 H1 x1 h1 vs hv => by
    obtain ⟨l, h1⟩ := res_if h1
    exact ⟨by rw [hv.length]; exact lenOk_line l, fun p hp => h1 μ1 _ (x1.rep.ext1 hp) _ (.of (x1.rep.newTup hp hv))⟩⟩
theorem df_lst {ms : List (M D)} (h : PA X es (tDA (XC X) W (M.args ms))) : PE X (.List es pos) (tDF (XC X) W (M.disp ms)) :=
  peImp (pe_lst h) fun σ H Q ⟨F, μ, s, r, q⟩ => ⟨F, μ, s, r, q.split.imp fun ds μ1 s1 H1 x1 h1 vs hv => by
    obtain ⟨l, h1⟩ := res_if h1
    exact ⟨by rw [hv.length]; exact lenOk_line l, fun p hp => h1.pure x1.rep p vs hp hv⟩⟩
/-- a fresh list as a value -/
theorem d_fr {m : M (List D)} (h : PE X a (tDF (XC X) W m)) : PE X a (tD (XC X) W (M.lst m)) :=
  peImp h fun σ H Q ⟨F, μ, s, r, q⟩ => ⟨F, μ, s, r, q.split.imp fun ds μ1 s1 H1 x1 h1 p vs hp hv => by
    have e := h1 μ1 _ (x1.rep.ext1 (o := .lst vs) hp)
    exact e _ (.of (x1.rep.newLst hp hv))⟩
end
end Ms
/-! Ms6: changes of the state. -/
namespace Ms
open PySem PySem.Spec PyProof.Rows L2
section
variable {C : RC} {W : WX} {F : Addr → Prop} {μ : List Addr} {s : Sta} {σ : L2.St} {H H' : Hp}
theorem RepO.some {T : Addr → Prop} {a : Addr} {o : MO} (h : RepO C T μ H a o) : H a ≠ none := by
  cases o with
  | lst l => obtain ⟨vs, e, _⟩ := h; rw [e]; simp
  | dct t k l => obtain ⟨vs, e, _⟩ := h; exact e.some
  | ins c k l => obtain ⟨A, dx, fs, _, e, _⟩ := h; rw [e]; simp
theorem Rep.tabSome (r : Rep C F μ s σ H) {a : Addr} (t : Tab F μ s σ a) : H a ≠ none := fun h => r.free h t
/-- a slot is stored anew -/
theorem Rep.put (r : Rep C F μ s σ H) {i : Nat} {sl : Slot} {w : Option V} (hi : i < s.ρ.length) (g : ∀ a o, H a = Option.some o → H' a = Option.some o)
    (ho : ∀ o a, sl = .own o → w = Option.some (.ref a) → H a = none) (hw : ∀ o, sl = .own o → ∃ a, w = Option.some (.ref a))
    (hs : ∀ T : Addr → Prop, Keep (Tab F μ s σ) T H H' → (∀ a, T a → Tab F μ s σ a ∨ ∃ o, sl = .own o ∧ w = Option.some (.ref a)) → RepS C T μ H' (σ.set i w) i sl) :
    Ext C F μ s σ H μ { s with ρ := s.ρ.set i sl } (σ.set i w) H' := by
  have hσ : i < σ.length := by rw [← r.len]; exact hi
  have own1 : ∀ b, OwnAt (s.ρ.set i sl) (σ.set i w) b → OwnAt s.ρ σ b ∨ ∃ o, sl = .own o ∧ w = Option.some (.ref b) := fun b ⟨j, oj, e1, e2⟩ => by
    by_cases hj : j = i
    · subst hj
      rw [List.getElem?_set_self hi] at e1
      rw [List.getElem?_set_self hσ] at e2
      exact .inr ⟨oj, by injection e1, by injection e2⟩
    · rw [List.getElem?_set_ne (Ne.symm hj)] at e1 e2
      exact .inl ⟨j, oj, e1, e2⟩
  have new : ∀ b, Tab F μ { s with ρ := s.ρ.set i sl } (σ.set i w) b → Tab F μ s σ b ∨ ∃ o, sl = .own o ∧ w = Option.some (.ref b) := fun b t => by
    rcases t with t | t | t
    · exact .inl (.inl t)
    · exact .inl (.inr (.inl t))
    · exact (own1 b t).imp (fun q => .inr (.inr q)) id
  have kp : Keep (Tab F μ s σ) (Tab F μ { s with ρ := s.ρ.set i sl } (σ.set i w)) H H' := ⟨fun a o e _ => g a o e, fun b t => (new b t).imp id fun ⟨o, e1, e2⟩ => ho o b e1 e2⟩
  refine ⟨List.prefix_refl _, ⟨fun a o e _ => g a o e, fun b t => ?_⟩, ⟨by simpa using r.len, fun j sj ej => ?_, fun j k oj ok b e1 e2 e3 e4 => ?_, r.lenG, fun x o ex => ?_, r.nd, fun b hb t => ?_, fun b t => ⟨fun z => ?_, fun m => ?_⟩⟩, by simp⟩
  · rcases t with t | t
    · exact .inl (.inl t)
    · rcases own1 b t with q | ⟨o, e1, e2⟩
      · exact .inl (.inr q)
      · exact .inr (ho o b e1 e2)
  · by_cases hj : j = i
    · subst hj
      rw [List.getElem?_set_self hi] at ej
      cases ej
      exact hs _ kp new
    · rw [List.getElem?_set_ne (Ne.symm hj)] at ej
      have q := r.slots j sj ej
      cases sj with
      | no => trivial
      | val d => obtain ⟨v, e1, e2⟩ := q; exact ⟨v, by rw [List.getElem?_set_ne (Ne.symm hj)]; exact e1, e2.keep kp (List.prefix_refl _)⟩
      | own o => obtain ⟨v, e1, e2⟩ := q; exact ⟨v, by rw [List.getElem?_set_ne (Ne.symm hj)]; exact e1, e2.keep kp (g v)⟩
  · by_cases hj : j = i
    · by_cases hk : k = i
      · rw [hj, hk]
      · exfalso
        subst hj
        rw [List.getElem?_set_self hi] at e1
        rw [List.getElem?_set_self hσ] at e3
        rw [List.getElem?_set_ne (Ne.symm hk)] at e2 e4
        exact r.free (ho oj b (by injection e1) (by injection e3)) (.inr (.inr ⟨k, ok, e2, e4⟩))
    · by_cases hk : k = i
      · exfalso
        subst hk
        rw [List.getElem?_set_self hi] at e2
        rw [List.getElem?_set_self hσ] at e4
        rw [List.getElem?_set_ne (Ne.symm hj)] at e1 e3
        exact r.free (ho ok b (by injection e2) (by injection e4)) (.inr (.inr ⟨j, oj, e1, e3⟩))
      · rw [List.getElem?_set_ne (Ne.symm hj)] at e1 e3
        rw [List.getElem?_set_ne (Ne.symm hk)] at e2 e4
        exact r.inj j k oj ok b e1 e2 e3 e4
  · obtain ⟨a, e1, e2⟩ := r.objs x o ex
    exact ⟨a, e1, e2.keep kp (g a)⟩
  · rcases own1 b t with q | ⟨o, e1, e2⟩
    · exact r.sep b hb q
    · exact r.free (ho o b e1 e2) (.inr (.inl hb))
  · obtain ⟨o, e⟩ := Option.ne_none_iff_exists'.mp (r.far b t).1
    rw [g b o e] at z
    cases z
  · rcases m with m | m
    · exact (r.far b t).2 (.inl m)
    · rcases own1 b m with q | ⟨o, e1, e2⟩
      · exact (r.far b t).2 (.inr q)
      · exact (r.far b t).1 (ho o b e1 e2)
theorem Rep.putVal (r : Rep C F μ s σ H) {i : Nat} {v : V} {d : D} (hi : i < s.ρ.length) (h : At C (Tab F μ s σ) μ H v d) : Ext C F μ s σ H μ { s with ρ := s.ρ.set i (.val d) } (σ.set i (Option.some v)) H :=
  r.put hi (fun _ _ e => e) (fun _ _ z => by cases z) (fun _ z => by cases z) fun T k _ => ⟨v, List.getElem?_set_self (by rw [← r.len]; exact hi), h.keep k (List.prefix_refl _)⟩
theorem Rep.putNo (r : Rep C F μ s σ H) {i : Nat} {w : Option V} (hi : i < s.ρ.length) : Ext C F μ s σ H μ { s with ρ := s.ρ.set i .no } (σ.set i w) H :=
  r.put hi (fun _ _ e => e) (fun _ _ z => by cases z) (fun _ z => by cases z) fun T k _ => trivial
theorem Rep.putLst (r : Rep C F μ s σ H) {i : Nat} {p : Addr} {vs : List V} {ds : List D} (hi : i < s.ρ.length) (hp : H p = none) (h : AtL C (Tab F μ s σ) μ H vs ds) :
    Ext C F μ s σ H μ { s with ρ := s.ρ.set i (.own (.lst ds)) } (σ.set i (Option.some (.ref p))) (upd H p (.lst vs)) :=
  r.put hi (fun a o e => by rw [upd_ne (ne_of_none e hp)]; exact e) (fun o a _ e => by cases e; exact hp) (fun o _ => ⟨p, rfl⟩) fun T k _ => ⟨p, List.getElem?_set_self (by rw [← r.len]; exact hi), vs, upd_same, h.keep k (List.prefix_refl _)⟩
/-- an own thing is changed -/
theorem Rep.mutOwn (r : Rep C F μ s σ H) {i : Nat} {o o' : MO} {a : Addr} {u : HO} (e : s.ρ[i]? = some (.own o)) (ea : σ[i]? = some (some (.ref a))) (h : Keep (Tab F μ s σ) (Tab F μ s σ) H (upd H a u) → RepO C (Tab F μ s σ) μ (upd H a u) a o') :
    Ext C F μ s σ H μ { s with ρ := s.ρ.set i (.own o') } σ (upd H a u) := by
  have hi : i < s.ρ.length := (List.getElem?_eq_some_iff.mp e).1
  have mine : OwnAt s.ρ σ a := ⟨i, o, e, ea⟩
  have own1 : ∀ b, OwnAt (s.ρ.set i (.own o')) σ b ↔ OwnAt s.ρ σ b := fun b => by
    constructor
    · rintro ⟨j, oj, e1, e2⟩
      by_cases hj : j = i
      · subst hj
        rw [ea] at e2
        cases e2
        exact mine
      · rw [List.getElem?_set_ne (Ne.symm hj)] at e1
        exact ⟨j, oj, e1, e2⟩
    · rintro ⟨j, oj, e1, e2⟩
      by_cases hj : j = i
      · subst hj
        exact ⟨j, o', List.getElem?_set_self hi, e2⟩
      · exact ⟨j, oj, by rw [List.getElem?_set_ne (Ne.symm hj)]; exact e1, e2⟩
  have tabE : Tab F μ { s with ρ := s.ρ.set i (.own o') } σ = Tab F μ s σ := by
    funext b
    unfold Tab Mine
    simp only [own1]
  have kp : Keep (Mine μ s σ) (Mine μ { s with ρ := s.ρ.set i (.own o') } σ) H (upd H a u) := ⟨fun b ob q n => by rw [upd_ne (fun z => n (by rw [z]; exact .inr mine))]; exact q, fun b t => .inl (t.imp id (own1 b).mp)⟩
  have kt : Keep (Tab F μ s σ) (Tab F μ s σ) H (upd H a u) := ⟨fun b ob q n => kp.stay b ob q fun t => n (.inr t), fun b t => .inl t⟩
  have oth : ∀ {b : Addr} {ob : MO}, b ≠ a → RepO C (Tab F μ s σ) μ H b ob → RepO C (Tab F μ s σ) μ (upd H a u) b ob := fun {b ob} n q => q.keep kt fun w e => by rw [upd_ne n]; exact e
  refine ⟨List.prefix_refl _, kp, ⟨by simpa using r.len, fun j sj ej => ?_, fun j k oj ok b e1 e2 e3 e4 => ?_, r.lenG, fun x ob ex => ?_, r.nd, fun b hb t => r.sep b hb ((own1 b).mp t), fun b t => ⟨?_, fun m => (r.far b t).2 (m.imp id (own1 b).mp)⟩⟩, rfl⟩
  · rw [tabE]
    by_cases hj : j = i
    · subst hj
      rw [List.getElem?_set_self hi] at ej
      cases ej
      exact ⟨a, ea, h kt⟩
    · rw [List.getElem?_set_ne (Ne.symm hj)] at ej
      have q := r.slots j sj ej
      cases sj with
      | no => trivial
      | val d => obtain ⟨v, e1, e2⟩ := q; exact ⟨v, e1, e2.keep kt (List.prefix_refl _)⟩
      | own ob => obtain ⟨b, e1, e2⟩ := q; exact ⟨b, e1, oth (fun z => hj (r.inj j i ob o a ej e (by rw [← z]; exact e1) ea)) e2⟩
  · have back : ∀ {j : Nat} {oj : MO}, (s.ρ.set i (.own o'))[j]? = some (.own oj) → ∃ oj', s.ρ[j]? = some (.own oj') := fun {j oj} q => by
      by_cases hj : j = i
      · exact ⟨o, by rw [hj]; exact e⟩
      · rw [List.getElem?_set_ne (Ne.symm hj)] at q
        exact ⟨oj, q⟩
    obtain ⟨_, q1⟩ := back e1
    obtain ⟨_, q2⟩ := back e2
    exact r.inj j k _ _ b q1 q2 e3 e4
  · rw [tabE]
    obtain ⟨b, e1, e2⟩ := r.objs x ob ex
    exact ⟨b, e1, oth (fun z => r.sep b (List.mem_of_getElem? e1) (by rw [z]; exact mine)) e2⟩
  · rw [upd_ne (fun z => (r.far b t).2 (by rw [z]; exact .inr mine))]
    exact (r.far b t).1
/-- a shared thing is changed -/
theorem Rep.mutG (r : Rep C F μ s σ H) {g : Nat} {o o' : MO} {a : Addr} {u : HO} (e : s.G[g]? = some o) (ea : μ[g]? = some a) (h : Keep (Tab F μ s σ) (Tab F μ s σ) H (upd H a u) → RepO C (Tab F μ s σ) μ (upd H a u) a o') :
    Ext C F μ s σ H μ { s with G := s.G.set g o' } σ (upd H a u) := by
  have hg : g < s.G.length := (List.getElem?_eq_some_iff.mp e).1
  have mem : a ∈ μ := List.mem_of_getElem? ea
  have kp : Keep (Mine μ s σ) (Mine μ { s with G := s.G.set g o' } σ) H (upd H a u) := ⟨fun b ob q n => by rw [upd_ne (fun z => n (by rw [z]; exact .inl mem))]; exact q, fun b t => .inl t⟩
  have kt : Keep (Tab F μ s σ) (Tab F μ s σ) H (upd H a u) := ⟨fun b ob q n => kp.stay b ob q fun t => n (.inr t), fun b t => .inl t⟩
  have oth : ∀ {b : Addr} {ob : MO}, b ≠ a → RepO C (Tab F μ s σ) μ H b ob → RepO C (Tab F μ s σ) μ (upd H a u) b ob := fun {b ob} n q => q.keep kt fun w e => by rw [upd_ne n]; exact e
  refine ⟨List.prefix_refl _, kp, ⟨r.len, fun j sj ej => ?_, r.inj, by simpa using r.lenG, fun x ob ex => ?_, r.nd, r.sep, fun b t => ⟨?_, (r.far b t).2⟩⟩, rfl⟩
  · have q := r.slots j sj ej
    cases sj with
    | no => trivial
    | val d => obtain ⟨v, e1, e2⟩ := q; exact ⟨v, e1, e2.keep kt (List.prefix_refl _)⟩
    | own ob => obtain ⟨b, e1, e2⟩ := q; exact ⟨b, e1, oth (fun z => r.sep a mem ⟨j, ob, ej, by rw [← z]; exact e1⟩) e2⟩
  · by_cases hx : x = g
    · subst hx
      have ex' : (s.G.set x o')[x]? = some ob := ex
      rw [List.getElem?_set_self hg] at ex'
      cases ex'
      exact ⟨a, ea, h kt⟩
    · have ex' : (s.G.set g o')[x]? = some ob := ex
      rw [List.getElem?_set_ne (Ne.symm hx)] at ex'
      obtain ⟨b, e1, e2⟩ := r.objs x ob ex'
      refine ⟨b, e1, oth (fun z => hx ?_) e2⟩
      subst z
      obtain ⟨l1, q1⟩ := List.getElem?_eq_some_iff.mp e1
      obtain ⟨l2, q2⟩ := List.getElem?_eq_some_iff.mp ea
      exact (List.getElem_inj r.nd).mp (q1.trans q2.symm)
  · rw [upd_ne (fun z => (r.far b t).2 (by rw [z]; exact .inl mem))]
    exact (r.far b t).1
/-- a new shared thing -/
theorem Rep.newG (r : Rep C F μ s σ H) {o : MO} {p : Addr} (hp : H p = none) (g : ∀ a u, H a = some u → H' a = some u) (h : ∀ (T : Addr → Prop), Keep (Tab F μ s σ) T H H' → RepO C T (μ ++ [p]) H' p o) :
    Ext C F μ s σ H (μ ++ [p]) { s with G := s.G ++ [o] } σ H' := by
  have new : ∀ b, Mine (μ ++ [p]) { s with G := s.G ++ [o] } σ b → Mine μ s σ b ∨ b = p := fun b t => by
    rcases t with t | t
    · rcases List.mem_append.mp t with t | t
      · exact .inl (.inl t)
      · exact .inr (by simpa using t)
    · exact .inl (.inr t)
  have kp : Keep (Mine μ s σ) (Mine (μ ++ [p]) { s with G := s.G ++ [o] } σ) H H' := ⟨fun b ob q _ => g b ob q, fun b t => (new b t).imp id fun z => by rw [z]; exact hp⟩
  have kt : Keep (Tab F μ s σ) (Tab F (μ ++ [p]) { s with G := s.G ++ [o] } σ) H H' := kp.tab
  have pre : μ <+: μ ++ [p] := ⟨[p], rfl⟩
  have lift : ∀ {b : Addr} {ob : MO}, RepO C (Tab F μ s σ) μ H b ob → RepO C (Tab F (μ ++ [p]) { s with G := s.G ++ [o] } σ) (μ ++ [p]) H' b ob := fun {b ob} q => by
    cases ob with
    | lst l => obtain ⟨vs, e, c⟩ := q; exact ⟨vs, g _ _ e, c.keep kt pre⟩
    | dct t k l => obtain ⟨vs, e, c⟩ := q; exact ⟨vs, e.keep (g b), c.keep kt pre⟩
    | ins c k l => obtain ⟨A, dx, fs, e1, e2, e3, c⟩ := q; exact ⟨A, dx, fs, e1, g _ _ e2, e3, c.keep kt pre⟩
  have nin : p ∉ μ := fun z => r.free hp (.inr (.inl z))
  refine ⟨pre, kp, ⟨r.len, fun j sj ej => ?_, r.inj, by simp [r.lenG], fun x ob ex => ?_, ?_, fun b hb t => ?_, fun b t => ⟨fun z => ?_, fun m => ?_⟩⟩, rfl⟩
  · have q := r.slots j sj ej
    cases sj with
    | no => trivial
    | val d => obtain ⟨v, e1, e2⟩ := q; exact ⟨v, e1, e2.keep kt pre⟩
    | own ob => obtain ⟨b, e1, e2⟩ := q; exact ⟨b, e1, lift e2⟩
  · have ex' : (s.G ++ [o])[x]? = some ob := ex
    by_cases hx : x < s.G.length
    · rw [List.getElem?_append_left hx] at ex'
      obtain ⟨b, e1, e2⟩ := r.objs x ob ex'
      exact ⟨b, by rw [List.getElem?_append_left (by rw [r.lenG]; exact hx)]; exact e1, lift e2⟩
    · rw [List.getElem?_append_right (by omega)] at ex'
      have hx2 : x - s.G.length = 0 := by
        have := (List.getElem?_eq_some_iff.mp ex').1
        simp at this
        omega
      rw [hx2] at ex'
      cases ex'
      exact ⟨p, by rw [List.getElem?_append_right (by rw [r.lenG]; omega), r.lenG, hx2]; rfl, h _ kt⟩
  · rw [List.nodup_append]
    refine ⟨r.nd, by simp, fun a ha b hb z => ?_⟩
    rw [List.mem_singleton.mp hb] at z
    exact nin (by rw [← z]; exact ha)
  · rcases List.mem_append.mp hb with q | q
    · exact r.sep b q t
    · rw [List.mem_singleton.mp q] at t
      exact r.free hp (.inr (.inr t))
  · obtain ⟨ob, q⟩ := Option.ne_none_iff_exists'.mp (r.far b t).1
    rw [g b ob q] at z
    cases z
  · rcases new b m with q | q
    · exact (r.far b t).2 q
    · exact (r.far b t).1 (by rw [q]; exact hp)
end
/-! ### statements: what they come to -/
section
variable {C : RC} {W : WX} {F : Addr → Prop} {μ : List Addr} {s : Sta} {σ : L2.St} {H : Hp} {α : Type}
theorem ResS.imp {m : M Fl} {K K' : Fl → List Addr → Sta → L2.St → Hp → Prop} (h : ResS C W F μ s σ H m K) (q : ∀ a μ1 s1 σ1 H1, Ext C F μ s σ H μ1 s1 σ1 H1 → K a μ1 s1 σ1 H1 → K' a μ1 s1 σ1 H1) : ResS C W F μ s σ H m K' := by
  unfold ResS at h ⊢
  cases e : m s with
  | ok a s1 => rw [e] at h; exact fun μ1 σ1 H1 x => q a μ1 s1 σ1 H1 x (h μ1 σ1 H1 x)
  | exc x s1 => rw [e] at h; exact h
  | stuck => rw [e] at h; exact h
/-- an expression's part first -/
theorem ResS.splitE {m : M α} {k : α → M Fl} {K : Fl → List Addr → Sta → L2.St → Hp → Prop} (h : ResS C W F μ s σ H (m >>= k) K) :
    Res C W F μ s σ H m fun a μ1 s1 H1 => ResS C W F μ1 s1 σ H1 (k a) K := by
  unfold ResS at h
  unfold Res
  cases e : m s with
  | ok a s1 =>
    have e2 : (m >>= k) s = k a s1 := by
      show M.bind m k s = _
      unfold M.bind
      rw [e]
    rw [e2] at h
    intro μ1 H1 x
    show ResS C W F μ1 s1 σ H1 (k a) K
    unfold ResS
    cases e3 : k a s1 with
    | ok b s2 => rw [e3] at h; exact fun μ2 σ2 H2 y => h μ2 σ2 H2 (x.trans y)
    | exc z s2 => rw [e3] at h; exact fun cls dx μ2 σ2 H2 y => h cls dx μ2 σ2 H2 (x.trans y)
    | stuck => rw [e3] at h; exact h
  | exc x s1 =>
    have e2 : (m >>= k) s = .exc x s1 := by
      show M.bind m k s = _
      unfold M.bind
      rw [e]
    rw [e2] at h
    exact fun cls dx μ1 H1 y => h cls dx μ1 σ H1 y
  | stuck =>
    have e2 : (m >>= k) s = .stuck := by
      show M.bind m k s = _
      unfold M.bind
      rw [e]
    rw [e2] at h
    exact h
/-- a statement first -/
theorem ResS.split {m : M Fl} {k : Fl → M Fl} {K : Fl → List Addr → Sta → L2.St → Hp → Prop} (h : ResS C W F μ s σ H (m >>= k) K) :
    ResS C W F μ s σ H m fun a μ1 s1 σ1 H1 => ResS C W F μ1 s1 σ1 H1 (k a) K := by
  unfold ResS at h ⊢
  cases e : m s with
  | ok a s1 =>
    have e2 : (m >>= k) s = k a s1 := by
      show M.bind m k s = _
      unfold M.bind
      rw [e]
    rw [e2] at h
    intro μ1 σ1 H1 x
    show ResS C W F μ1 s1 σ1 H1 (k a) K
    unfold ResS
    cases e3 : k a s1 with
    | ok b s2 => rw [e3] at h; exact fun μ2 σ2 H2 y => h μ2 σ2 H2 (x.trans y)
    | exc z s2 => rw [e3] at h; exact fun cls dx μ2 σ2 H2 y => h cls dx μ2 σ2 H2 (x.trans y)
    | stuck => rw [e3] at h; exact h
  | exc x s1 =>
    have e2 : (m >>= k) s = .exc x s1 := by
      show M.bind m k s = _
      unfold M.bind
      rw [e]
    rw [e2] at h
    exact h
  | stuck =>
    have e2 : (m >>= k) s = .stuck := by
      show M.bind m k s = _
      unfold M.bind
      rw [e]
    rw [e2] at h
    exact h
theorem ResS.pure {a : Fl} {K : Fl → List Addr → Sta → L2.St → Hp → Prop} (r : Rep C F μ s σ H) (h : ResS C W F μ s σ H (pure a) K) : K a μ s σ H := h μ σ H (.refl r)
theorem resS_stuck {K : Fl → List Addr → Sta → L2.St → Hp → Prop} (h : ResS C W F μ s σ H M.stuck K) : False := h
theorem resS_out {d : D} {k : D → M Fl} {K : Fl → List Addr → Sta → L2.St → Hp → Prop} (r : Rep C F μ s σ H) (h : ResS C W F μ s σ H (M.out d >>= k) K) : d.isOwn = false ∧ ResS C W F μ s σ H (k d) K := by
  cases e : d.isOwn with
  | true =>
    have e1 : M.out d = M.stuck := by unfold M.out; rw [e]; rfl
    have h1 := h.splitE
    rw [e1] at h1
    exact (res_stuck h1).elim
  | false =>
    have e1 : M.out d = Pure.pure d := by unfold M.out; rw [e]; rfl
    have h1 := h.splitE
    rw [e1] at h1
    exact ⟨rfl, h1.pure r⟩
end
def M.seq (a b : M Fl) : M Fl := do
  match ← a with
  | .nx => b
  | f => pure f
def M.ret (m : M D) : M Fl := do
  let d ← m
  let d ← M.out d
  pure (.rt d)
def M.retN : M Fl := pure (.rt .non)
def M.drop (m : M D) : M Fl := do
  let _ ← m
  pure .nx
def M.cond (t : M Bool) (a b : M Fl) : M Fl := do if ← t then a else b
def M.put (i : Nat) (sl : Slot) : M Fl := fun s => if i < s.ρ.length then .ok .nx { s with ρ := s.ρ.set i sl } else .stuck
def M.set (i : Nat) (m : M D) : M Fl := do
  let d ← m
  let d ← M.out d
  M.put i (.val d)
/-- a fresh list to a name that changes it -/
def M.setOwn (i : Nat) (m : M (List D)) : M Fl := do
  let ds ← m
  M.put i (.own (.lst ds))
section
variable {X : Cx} {W : WX} {a b c e o : Expr} {st : Stmt} {sts sts2 : List Stmt} {pos pos' p2 : Pos} {ma mb mc : M D} {n1 n2 : M Fl} {nb : M Bool} {x : Str} {i : Nat}
theorem ds_nil : PSs X [] (tDS (XC X) W (pure .nx)) := pssImp pss_nil fun E σ H ⟨F, μ, s, r, q⟩ => q.pure r
theorem ds_one (h : PS X st (tDS (XC X) W n1)) : PSs X [st] (tDS (XC X) W n1) := pss_one h
theorem ds_cons (h : PS X st (tDS (XC X) W n1)) (h2 : PSs X sts (tDS (XC X) W n2)) : PSs X (st :: sts) (tDS (XC X) W (M.seq n1 n2)) :=
  pssImp (pss_cons h h2) fun E σ H ⟨F, μ, s, r, q⟩ => ⟨F, μ, s, r, q.split.imp fun f μ1 s1 σ1 H1 x1 h1 => by
    cases f with
    | nx => exact ⟨F, μ1, s1, x1.rep, h1⟩
    | rt d => exact h1.pure x1.rep
    | bk => exact h1.pure x1.rep
    | ct => exact h1.pure x1.rep⟩
theorem ds_ret (h : PE X a (tD (XC X) W ma)) : PS X (.Return (some a) pos) (tDS (XC X) W (M.ret ma)) :=
  psImp (ps_ret h) fun E σ H ⟨F, μ, s, r, q⟩ => ⟨F, μ, s, r, q.splitE.imp fun d μ1 s1 H1 x1 h1 v hv => by
    obtain ⟨n, h1⟩ := resS_out x1.rep h1
    exact h1.pure x1.rep v (hv.at n)⟩
theorem ds_retN : PS X (.Return none pos) (tDS (XC X) W M.retN) := psImp ps_retN fun E σ H ⟨F, μ, s, r, q⟩ => q.pure r .non .non
theorem ds_expr (h : PE X a (tD (XC X) W ma)) (hs : swapsWith a none pos.line X.env = pure false := by rfl) : PS X (.Expr a pos) (tDS (XC X) W (M.drop ma)) :=
  psImp (ps_expr h hs) fun E σ H ⟨F, μ, s, r, q⟩ => ⟨F, μ, s, r, q.splitE.imp fun d μ1 s1 H1 x1 h1 v hv => h1.pure x1.rep⟩
theorem ds_if (hc : PT X c (tDB (XC X) W nb)) (ha : PSs X sts (tDS (XC X) W n1)) (hb : PSs X sts2 (tDS (XC X) W n2)) : PS X (.If c sts sts2 pos) (tDS (XC X) W (M.cond nb n1 n2)) :=
  psImp (ps_if hc ha hb) fun E σ H ⟨F, μ, s, r, q⟩ => ⟨F, μ, s, r, q.splitE.imp fun k μ1 s1 H1 x1 h1 => by
    cases k with
    | true => rw [if_pos rfl] at h1 ⊢; exact ⟨F, μ1, s1, x1.rep, h1⟩
    | false => rw [if_neg (by simp)] at h1 ⊢; exact ⟨F, μ1, s1, x1.rep, h1⟩⟩
theorem ds_pass : PS X (.Pass pos) (tDS (XC X) W (pure .nx)) := psImp ps_pass fun E σ H ⟨F, μ, s, r, q⟩ => q.pure r
theorem ds_break : PS X (.Break pos) (tDS (XC X) W (pure .bk)) := psImp ps_break fun E σ H ⟨F, μ, s, r, q⟩ => q.pure r
theorem ds_continue : PS X (.Continue pos) (tDS (XC X) W (pure .ct)) := psImp ps_continue fun E σ H ⟨F, μ, s, r, q⟩ => q.pure r
theorem resS_put {C : RC} {F : Addr → Prop} {μ : List Addr} {s : Sta} {σ : L2.St} {H : Hp} {sl : Slot} {K : Fl → List Addr → Sta → L2.St → Hp → Prop} (h : ResS C W F μ s σ H (M.put i sl) K) :
    i < s.ρ.length ∧ ∀ μ' σ' H', Ext C F μ s σ H μ' { s with ρ := s.ρ.set i sl } σ' H' → K .nx μ' { s with ρ := s.ρ.set i sl } σ' H' := by
  unfold ResS M.put at h
  by_cases hi : i < s.ρ.length
  · simp only [if_pos hi] at h
    exact ⟨hi, h⟩
  · simp only [if_neg hi] at h
theorem ds_set (hN : X.N.Nodup) (hi : X.N[i]? = some x) (hx : Loc X.env.scope x) (h : PE X a (tD (XC X) W ma)) (hs : swapsWith a (some (.Name x pos')) pos.line X.env = pure false := by rfl)
    (hf : X.fn x = true ∨ X.env.scope.names.lookup x = some .local := by first | exact .inl rfl | exact .inr rfl | assumption) : PS X (.Assign [.Name x pos'] a pos) (tDS (XC X) W (M.set i ma)) :=
  psImp (ps_set hN hi hx h hs hf) fun E σ H ⟨F, μ, s, r, q⟩ => ⟨F, μ, s, r, q.splitE.imp fun d μ1 s1 H1 x1 h1 v hv => by
    obtain ⟨n, h1⟩ := resS_out x1.rep h1
    obtain ⟨hl, h1⟩ := resS_put h1
    exact h1 _ _ _ (x1.rep.putVal hl (hv.at n))⟩
theorem ds_setOwn {m : M (List D)} (hN : X.N.Nodup) (hi : X.N[i]? = some x) (hx : Loc X.env.scope x) (h : PE X a (tDF (XC X) W m)) (hs : swapsWith a (some (.Name x pos')) pos.line X.env = pure false := by rfl)
    (hf : X.fn x = true ∨ X.env.scope.names.lookup x = some .local := by first | exact .inl rfl | exact .inr rfl | assumption) : PS X (.Assign [.Name x pos'] a pos) (tDS (XC X) W (M.setOwn i m)) :=
  psImp (ps_set hN hi hx h hs hf) fun E σ H ⟨F, μ, s, r, q⟩ => ⟨F, μ, s, r, q.splitE.imp fun ds μ1 s1 H1 x1 h1 p vs hp hv => by
    obtain ⟨hl, h1⟩ := resS_put h1
    exact h1 _ _ _ (x1.rep.putLst hl hp hv)⟩
end
end Ms
/-! Ms7: loops and comprehensions. -/
namespace Ms
open PySem PySem.Spec PyProof.Rows L2
section
variable {C : RC} {W : WX} {F : Addr → Prop} {μ μ' : List Addr} {s s' : Sta} {σ : L2.St} {H H2 : Hp} {α : Type}
/-- later, in the same state -/
theorem ResS.after {m : M Fl} {K : Fl → List Addr → Sta → L2.St → Hp → Prop} (h : ResS C W F μ s σ H m K) (x : Ext C F μ s σ H μ' s σ H2) : ResS C W F μ' s σ H2 m K := by
  unfold ResS at h ⊢
  cases e : m s with
  | ok a s1 => rw [e] at h; exact fun μ1 σ1 H1 y => h μ1 σ1 H1 (x.trans y)
  | exc z s1 => rw [e] at h; exact fun cls dx μ1 σ1 H1 y => h cls dx μ1 σ1 H1 (x.trans y)
  | stuck => rw [e] at h; exact h
theorem Res.after {m : M α} {K : α → List Addr → Sta → Hp → Prop} (h : Res C W F μ s σ H m K) (x : Ext C F μ s σ H μ' s σ H2) : Res C W F μ' s σ H2 m K := by
  unfold Res at h ⊢
  cases e : m s with
  | ok a s1 => rw [e] at h; exact fun μ1 H1 y => h μ1 H1 (x.trans y)
  | exc z s1 => rw [e] at h; exact fun cls dx μ1 H1 y => h cls dx μ1 H1 (x.trans y)
  | stuck => rw [e] at h; exact h
/-- slots that hold nothing may hold anything -/
theorem Rep.reslot (r : Rep C F μ s σ H) {σ' : L2.St} (l : σ'.length = σ.length) (h : ∀ (i : Nat) sl, s.ρ[i]? = some sl → sl ≠ .no → σ'[i]? = σ[i]?) : Rep C F μ s σ' H := by
  have own1 : ∀ b, OwnAt s.ρ σ' b ↔ OwnAt s.ρ σ b := fun b => by
    constructor
    · rintro ⟨i, o, e1, e2⟩
      exact ⟨i, o, e1, by rw [← h i _ e1 (by simp)]; exact e2⟩
    · rintro ⟨i, o, e1, e2⟩
      exact ⟨i, o, e1, by rw [h i _ e1 (by simp)]; exact e2⟩
  have te : Tab F μ s σ' = Tab F μ s σ := by
    funext b
    unfold Tab Mine
    simp only [own1]
  refine ⟨by rw [l]; exact r.len, fun i sl e => ?_, fun i j oi oj a e1 e2 e3 e4 => ?_, r.lenG, fun g o e => ?_, r.nd, fun a ha t => r.sep a ha ((own1 a).mp t), fun a t => ⟨(r.far a t).1, fun m => (r.far a t).2 (m.imp id (own1 a).mp)⟩⟩
  · rw [te]
    have q := r.slots i sl e
    cases sl with
    | no => trivial
    | val d => obtain ⟨v, e1, e2⟩ := q; exact ⟨v, by rw [h i _ e (by simp)]; exact e1, e2⟩
    | own o => obtain ⟨v, e1, e2⟩ := q; exact ⟨v, by rw [h i _ e (by simp)]; exact e1, e2⟩
  · rw [h i _ e1 (by simp)] at e3
    rw [h j _ e2 (by simp)] at e4
    exact r.inj i j oi oj a e1 e2 e3 e4
  · rw [te]; exact r.objs g o e
end
/-! ### targets -/
inductive Tgt where
  | one (i : Nat) | many (is : List Nat)
def Tgt.all : Tgt → List Nat
  | .one i => [i]
  | .many is => is
def putAll : List Nat → List D → List Slot → Option (List Slot)
  | [], [], ρ => some ρ
  | i :: is, d :: ds, ρ => if i < ρ.length then putAll is ds (ρ.set i (.val d)) else none
  | _, _, _ => none
def M.bindTo (t : Tgt) (d : D) : M Fl := fun s => match t with
  | .one i => if i < s.ρ.length then .ok .nx { s with ρ := s.ρ.set i (.val d) } else .stuck
  | .many is => match d with
    | .tup ds => match putAll is ds s.ρ with
      | some ρ => .ok .nx { s with ρ := ρ }
      | none => .stuck
    | _ => .stuck
def gNames : List Nat → TGs
  | [] => gNil
  | i :: is => gCons (gName i) (gNames is)
def gOf (K : PySem.W.Frag) : Tgt → TG
  | .one i => gName i
  | .many is => gTup K is.length (gNames is)
section
variable {C : RC} {W : WX} {F : Addr → Prop} {H : Hp} {μ : List Addr}
theorem gNames_ok {vs' : List Nat} : ∀ {is : List Nat} {ds : List D} {vs : List V} {s : Sta} {σ : L2.St} {ρ : List Slot} {Q : L2.St → Hp → Prop}, Rep C F μ s σ H → AtL C (Tab F μ s σ) μ H vs ds → putAll is ds s.ρ = some ρ → (∀ i ∈ is, i ∈ vs') →
    (∀ σ', Ext C F μ s σ H μ { s with ρ := ρ } σ' H → wipe σ' vs' = wipe σ vs' → Q σ' H) → gNames is vs σ H Q
  | [], [], _, s, σ, ρ, Q, r, h, e, _, k => by
    cases h
    cases e
    exact ⟨rfl, k σ (.refl r) rfl⟩
  | i :: is, d :: ds, _, s, σ, ρ, Q, r, h, e, hin, k => by
    cases h with
    | cons h t =>
      unfold putAll at e
      split at e
      · rename_i hi
        have x := r.putVal hi h
        refine ⟨_, _, rfl, gNames_ok (s := { s with ρ := s.ρ.set i (.val d) }) x.rep (x.atL t) e (fun j hj => hin j (List.mem_cons_of_mem _ hj)) fun σ' y w => k σ' (x.trans y) ?_⟩
        rw [w]
        have wset : ∀ {l : List Nat} {σ : L2.St} {v : Option V}, i ∈ l → wipe (σ.set i v) l = wipe σ l := fun {l σ v} hm => by
          induction l with
          | nil => cases hm
          | cons j l ih =>
            unfold wipe
            by_cases hj : i ∈ l
            · rw [ih hj]
            · have e1 : j = i := by
                rcases List.mem_cons.mp hm with z | z
                · exact z.symm
                · exact absurd z hj
              subst e1
              have out : ∀ {l : List Nat} {σ : L2.St} {v : Option V}, j ∉ l → wipe (σ.set j v) l = (wipe σ l).set j v := fun {l σ v} hn => by
                induction l with
                | nil => rfl
                | cons a l ih2 =>
                  unfold wipe
                  rw [ih2 (fun z => hn (List.mem_cons_of_mem _ z)), List.set_comm]
                  exact fun z => hn (by rw [z]; exact List.mem_cons_self)
              rw [out hj]
              simp
        exact wset (hin i List.mem_cons_self)
      · cases e
  | [], _ :: _, _, _, _, _, _, _, _, e, _, _ => by cases e
  | _ :: _, [], _, _, _, _, _, _, _, e, _, _ => by cases e
theorem putAll_len : ∀ {is : List Nat} {ds : List D} {ρ ρ' : List Slot}, putAll is ds ρ = some ρ' → is.length = ds.length
  | [], [], _, _, _ => rfl
  | i :: is, d :: ds, ρ, ρ', e => by
    unfold putAll at e
    split at e
    · exact congrArg (· + 1) (putAll_len e)
    · cases e
  | [], _ :: _, _, _, e => by cases e
  | _ :: _, [], _, _, e => by cases e
theorem gOf_ok {t : Tgt} {d : D} {v : V} {s s' : Sta} {σ : L2.St} {Q : L2.St → Hp → Prop} (r : Rep C F μ s σ H) (h : At C (Tab F μ s σ) μ H v d) (e : M.bindTo t d s = .ok .nx s')
    (k : ∀ σ', Ext C F μ s σ H μ s' σ' H → wipe σ' t.all = wipe σ t.all → Q σ' H) : gOf C.K t v σ H Q := by
  unfold M.bindTo at e
  cases t with
  | one i =>
    simp only at e
    split at e
    · rename_i hi
      cases e
      exact k _ (r.putVal hi h) (by show (wipe _ []).set i none = (wipe _ []).set i none; unfold wipe; simp)
    · cases e
  | many is =>
    simp only at e
    split at e
    · rename_i ds
      split at e
      · rename_i ρ e1
        cases e
        obtain ⟨a, vs, rfl, hp, c⟩ := h.tup_inv
        exact ⟨a, vs, rfl, SqTA.sq hp, by rw [c.length, ← putAll_len e1], gNames_ok (vs' := is) r c e1 (fun _ h => h) k⟩
      · cases e
    · cases e
end
section
variable {X : Cx} {e e1 e2 : Expr} {es : List Expr} {pos : Pos} {i : Nat} {x : Str} {is : List Nat}
theorem tg_one (hN : X.N.Nodup) (hi : X.N[i]? = some x) (hx : Loc X.env.scope x) (hf : X.fn x = true ∨ X.env.scope.names.lookup x = some .local := by first | exact .inl rfl | exact .inr rfl | assumption) : PG X (.Name x pos) (gOf X.K (.one i)) := pg_name hN hi hx hf
theorem tgs_nil : PGs X [] (gNames []) := pgs_nil
theorem tgs_cons (h : PG X e (gOf X.K (.one i))) (hs : PGs X es (gNames is)) (he : List.map (fun x => x.snd) (assignEach (e :: es) X.env) = assign e X.env :: List.map (fun x => x.snd) (assignEach es X.env) := by rfl) : PGs X (e :: es) (gNames (i :: is)) := pgs_cons h hs he
end
/-! ### what is walked -/
/-- one state, then another one, more being forbidden -/
structure ExtF (C : RC) (F : Addr → Prop) (μ : List Addr) (s : Sta) (σ : L2.St) (H : Hp) (F' : Addr → Prop) (μ' : List Addr) (s' : Sta) (σ' : L2.St) (H' : Hp) : Prop where
  more : ∀ a, F' a → F a ∨ H a = none
  pre : μ <+: μ'
  keep : Keep (Mine μ s σ) (Mine μ' s' σ') H H'
  rep : Rep C F' μ' s' σ' H'
theorem Ext.toF {C : RC} {F : Addr → Prop} {μ μ' : List Addr} {s s' : Sta} {σ σ' : L2.St} {H H' : Hp} (x : Ext C F μ s σ H μ' s' σ' H') : ExtF C F μ s σ H F μ' s' σ' H' := ⟨fun _ h => .inl h, x.pre, x.keep, x.rep⟩
theorem ExtF.at {C : RC} {F F' : Addr → Prop} {μ μ' : List Addr} {s s' : Sta} {σ σ' : L2.St} {H H' : Hp} (x : ExtF C F μ s σ H F' μ' s' σ' H') {v : V} {d : D} (h : At C (Tab F μ s σ) μ H v d) : At C (Tab F' μ' s' σ') μ' H' v d :=
  h.keep ⟨fun a o e n => x.keep.stay a o e fun t => n (.inr t), fun a t => t.elim (fun t => (x.more a t).imp .inl id) fun t => (x.keep.new a t).imp .inr id⟩ x.pre
def Yields (C : RC) (F : Addr → Prop) (μ : List Addr) (s : Sta) (σ : L2.St) (H : Hp) (J : It) (ds : List D) : Prop := ∀ F1 μ1 s1 σ1 H1, ExtF C F μ s σ H F1 μ1 s1 σ1 H1 → ∀ i : Nat, (ds.length ≤ i → J.stop i H1) ∧
  ∀ d, ds[i]? = some d → J.go i H1 ∧ ∀ x H2, J.yld i H1 x H2 → (∀ a o, H1 a = some o → H2 a = some o) ∧ At C (Tab F1 μ1 s1 σ1) μ1 H2 x d
def tDI (C : RC) (W : WX) (m : M (List D)) : TI := fun σ H R => ∃ F μ s, Rep C F μ s σ H ∧ Res C W F μ s σ H m fun ds μ' s' H' => ∀ J, Yields C F μ' s' σ H' J ds → R J H'
def M.forL (t : Tgt) (body : M Fl) : List D → M Fl
  | [] => pure .nx
  | d :: ds => do
    let _ ← M.bindTo t d
    match ← body with
    | .bk => pure .nx
    | .rt v => pure (.rt v)
    | _ => M.forL t body ds
def M.for_ (m : M (List D)) (t : Tgt) (body : M Fl) : M Fl := do M.forL t body (← m)
def M.whileN (c : M Bool) (body : M Fl) : Nat → M Fl
  | 0 => M.stuck
  | n + 1 => do
    if ← c then do
      match ← body with
      | .bk => pure .nx
      | .rt v => pure (.rt v)
      | _ => M.whileN c body n
    else pure .nx
theorem bindTo_res {C : RC} {W : WX} {F : Addr → Prop} {μ : List Addr} {s : Sta} {σ : L2.St} {H : Hp} {t : Tgt} {d : D} {k : Fl → M Fl} {K : Fl → List Addr → Sta → L2.St → Hp → Prop} (h : ResS C W F μ s σ H (M.bindTo t d >>= k) K) :
    ∃ s', M.bindTo t d s = .ok .nx s' ∧ ∀ μ' σ' H', Ext C F μ s σ H μ' s' σ' H' → ResS C W F μ' s' σ' H' (k .nx) K := by
  have h := h.split
  unfold ResS at h
  cases e : M.bindTo t d s with
  | stuck => rw [e] at h; exact h.elim
  | exc z s1 =>
    exfalso
    unfold M.bindTo at e
    cases t with
    | one i => simp only at e; split at e <;> cases e
    | many is =>
      simp only at e
      split at e
      · split at e <;> cases e
      · cases e
  | ok f s1 =>
    rw [e] at h
    have ef : f = .nx := by
      unfold M.bindTo at e
      cases t with
      | one i => simp only at e; split at e <;> cases e; rfl
      | many is =>
        simp only at e
        split at e
        · split at e <;> cases e; rfl
        · cases e
    subst ef
    exact ⟨s1, rfl, h⟩
section
variable {X : Cx} {W : WX} {tg iter c : Expr} {body : List Stmt} {pos : Pos} {mi : M (List D)} {t : Tgt} {mb : M Fl} {nb : M Bool}
theorem ds_for (hp : PassesOwn (model X.prog X.w) X.A X.env X.xe) (hc : X.calm = true) (hi : PI X tg iter (tDI (XC X) W mi)) (hg : PG X tg (gOf X.K t)) (hb : PSs X body (tDS (XC X) W mb))
    (hs : ∀ x, foldedSetIterable iter X.env x = pure x := by intro _; rfl) : PS X (.For tg iter body [] pos) (tDS (XC X) W (M.for_ mi t mb)) := by
  refine psImp (ps_for hp hc hi hg hb hs) fun E σ H ⟨F, μ, s, r, q⟩ => ?_
  refine ⟨F, μ, s, r, q.splitE.imp fun ds μ1 s1 H1 x1 h1 J hJ => ?_⟩
  refine ⟨fun i n σ' H' => n = ds.length - i ∧ ∃ μ' s', Ext (XC X) F μ1 s1 σ H1 μ' s' σ' H' ∧ ResS (XC X) W F μ' s' σ' H' (M.forL t mb (ds.drop i)) fun f μ' s' σ' H' => RtD (XC X) E F μ' s' σ' H' f, ⟨_, rfl, μ1, s1, .refl x1.rep, h1⟩, ?_⟩
  rintro i n σ' H' ⟨rfl, μ', s', x2, h2⟩
  obtain ⟨y1, y2⟩ := hJ F μ' s' σ' H' x2.toF i
  cases ed : ds[i]? with
  | none =>
    have hl : ds.length ≤ i := List.getElem?_eq_none_iff.mp ed
    rw [List.drop_eq_nil_of_le hl] at h2
    exact .inl ⟨y1 hl, h2.pure x2.rep⟩
  | some d =>
    obtain ⟨hl, ed'⟩ := List.getElem?_eq_some_iff.mp ed
    obtain ⟨go, y3⟩ := y2 d ed
    rw [List.drop_eq_getElem_cons hl, ed'] at h2
    refine .inr ⟨go, fun σ3 H3 => ∃ μ3 s3, Ext (XC X) F μ1 s1 σ H1 μ3 s3 σ3 H3 ∧ ResS (XC X) W F μ3 s3 σ3 H3 (M.forL t mb (ds.drop (i + 1))) fun f μ' s' σ' H' => RtD (XC X) E F μ' s' σ' H' f,
      fun σ3 H3 ⟨μ3, s3, x3, h3⟩ => ⟨ds.length - (i + 1), by omega, rfl, μ3, s3, x3, h3⟩, fun x H3 yl => ?_⟩
    obtain ⟨y4, y5⟩ := y3 x H3 yl
    have x3 := x2.rep.ext y4
    obtain ⟨s4, e4, h4⟩ := bindTo_res (h2.after x3)
    refine gOf_ok (C := XC X) x3.rep y5 e4 fun σ4 x4 _ => ?_
    have x5 := (x2.trans x3).trans x4
    refine ⟨F, μ', s4, x4.rep, ((h4 μ' σ4 H3 x4).split).imp fun f μ5 s5 σ5 H5 x6 h6 => ?_⟩
    cases f with
    | nx => exact ⟨μ5, s5, x5.trans x6, h6⟩
    | ct => exact ⟨μ5, s5, x5.trans x6, h6⟩
    | bk => exact h6.pure x6.rep
    | rt v => exact h6.pure x6.rep
theorem ds_while (n : Nat) (hp : PassesOwn (model X.prog X.w) X.A X.env X.xe) (hc : PT X c (tDB (XC X) W nb)) (hb : PSs X body (tDS (XC X) W mb)) : PS X (.While c body [] pos) (tDS (XC X) W (M.whileN nb mb n)) := by
  refine psImp (ps_while hp hc hb) fun E σ H ⟨F, μ, s, r, q⟩ => ?_
  refine ⟨fun n σ' H' => ∃ μ' s', Rep (XC X) F μ' s' σ' H' ∧ ResS (XC X) W F μ' s' σ' H' (M.whileN nb mb n) fun f μ' s' σ' H' => RtD (XC X) E F μ' s' σ' H' f, ⟨n, μ, s, r, q⟩, ?_⟩
  rintro n σ' H' ⟨μ', s', r', h⟩
  cases n with
  | zero => exact h.elim
  | succ n =>
    have h1 : ResS (XC X) W F μ' s' σ' H' (nb >>= fun k => if k = true then (mb >>= fun f => match f with | .bk => pure .nx | .rt v => pure (.rt v) | _ => M.whileN nb mb n) else pure .nx) fun f μ' s' σ' H' => RtD (XC X) E F μ' s' σ' H' f := h
    refine ⟨F, μ', s', r', h1.splitE.imp fun k μ1 s1 H1 x1 h1 => ?_⟩
    cases k with
    | false => rw [if_neg (by simp)] at h1 ⊢; exact h1.pure x1.rep
    | true =>
      rw [if_pos rfl] at h1 ⊢
      refine ⟨fun σ3 H3 => ∃ μ3 s3, Rep (XC X) F μ3 s3 σ3 H3 ∧ ResS (XC X) W F μ3 s3 σ3 H3 (M.whileN nb mb n) fun f μ' s' σ' H' => RtD (XC X) E F μ' s' σ' H' f, fun σ3 H3 q => ⟨n, Nat.lt_succ_self n, q⟩, F, μ1, s1, x1.rep, h1.split.imp fun f μ5 s5 σ5 H5 x6 h6 => ?_⟩
      cases f with
      | nx => exact ⟨μ5, s5, x6.rep, h6⟩
      | ct => exact ⟨μ5, s5, x6.rep, h6⟩
      | bk => exact h6.pure x6.rep
      | rt v => exact h6.pure x6.rep
end
end Ms
/-! Ms8: what loops walk. -/
namespace Ms
open PySem PySem.Spec PyProof.Rows L2 RZ
section
variable {C : RC} {W : WX} {F : Addr → Prop} {μ : List Addr} {s s1 : Sta} {σ : L2.St} {H : Hp} {α : Type} {m : M α} {a : α} {K : α → List Addr → Sta → Hp → Prop}
theorem Res.ok (h : Res C W F μ s σ H m K) (e : m s = .ok a s1) : ∀ μ' H', Ext C F μ s σ H μ' s1 σ H' → K a μ' s1 H' := by
  unfold Res at h
  rw [e] at h
  exact h
theorem Res.mkOk (e : m s = .ok a s1) (h : ∀ μ' H', Ext C F μ s σ H μ' s1 σ H' → K a μ' s1 H') : Res C W F μ s σ H m K := by
  unfold Res
  rw [e]
  exact h
theorem Res.other {K' : α → List Addr → Sta → Hp → Prop} (h : Res C W F μ s σ H m K) (e : ∀ a s1, m s ≠ .ok a s1) : Res C W F μ s σ H m K' := by
  unfold Res at h ⊢
  cases em : m s with
  | ok a s1 => exact absurd em (e a s1)
  | exc z s1 => rw [em] at h; exact h
  | stuck => rw [em] at h; exact h
end
section
variable {C : RC} {W : WX} {F : Addr → Prop} {μ : List Addr} {s : Sta} {σ : L2.St} {H : Hp}
theorem lt_of_get {α : Type} {l : List α} {i : Nat} {d : α} (h : l[i]? = some d) : i < l.length := (List.getElem?_eq_some_iff.mp h).1
theorem AtL.at {T : Addr → Prop} {vs : List V} {ds : List D} (h : AtL C T μ H vs ds) {i : Nat} {d : D} (e : ds[i]? = some d) : ∃ v, vs[i]? = some v ∧ At C T μ H v d := by
  have hl : i < vs.length := by rw [h.length]; exact lt_of_get e
  exact ⟨vs[i], List.getElem?_eq_getElem hl, h.get (List.getElem?_eq_getElem hl) e⟩
theorem yields_lst {a : Addr} {ds : List D} (h : At C (Tab F μ s σ) μ H (.ref a) (.lst ds)) : Yields C F μ s σ H (Itl C.K a) ds := fun F1 μ1 s1 σ1 H1 x i => by
  obtain ⟨b, vs, e, f, c⟩ := (x.at h).lst_inv
  cases e
  refine ⟨fun hl => ⟨vs, .of f.2, by rw [c.length]; exact hl⟩, fun d ed => ?_⟩
  obtain ⟨v, ev, hv⟩ := c.at ed
  exact ⟨⟨vs, v, .of f.2, ev⟩, fun y H2 ⟨e2, q⟩ => by
    subst e2
    have := q vs (.of f.2)
    rw [ev] at this
    cases this
    exact ⟨fun _ _ e => e, hv⟩⟩
theorem yields_tup {a : Addr} {ds : List D} (h : At C (Tab F μ s σ) μ H (.ref a) (.tup ds)) : Yields C F μ s σ H (Itt C.K a) ds := fun F1 μ1 s1 σ1 H1 x i => by
  obtain ⟨b, vs, e, f, c⟩ := (x.at h).tup_inv
  cases e
  refine ⟨fun hl => ⟨vs, SqTA.sq f, by rw [c.length]; exact hl⟩, fun d ed => ?_⟩
  obtain ⟨v, ev, hv⟩ := c.at ed
  exact ⟨⟨vs, v, SqTA.sq f, ev⟩, fun y H2 ⟨e2, q⟩ => by
    subst e2
    have := q vs (SqTA.sq f)
    rw [ev] at this
    cases this
    exact ⟨fun _ _ e => e, hv⟩⟩
theorem yields_scr {a : Addr} {l : List Int} (h : At C (Tab F μ s σ) μ H (.ref a) (.scr l)) : Yields C F μ s σ H (Itl C.K a) (l.map .int) := fun F1 μ1 s1 σ1 H1 x i => by
  obtain ⟨_, e, hq⟩ := (x.at h).scr_inv
  cases e
  · skip
    refine ⟨fun hl => ⟨_, hq, by simpa using hl⟩, fun d ed => ?_⟩
    rw [List.getElem?_map] at ed
    obtain ⟨k, ek, rfl⟩ := Option.map_eq_some_iff.mp ed
    exact ⟨⟨_, .int k, hq, by rw [List.getElem?_map, ek]; rfl⟩, fun y H2 ⟨e2, q⟩ => by
      subst e2
      have := q _ hq
      rw [List.getElem?_map, ek] at this
      cases this
      exact ⟨fun _ _ e => e, .int k⟩⟩
def signs (z : Str) : List D := z.cps.toList.map fun c => .str ⟨#[c]⟩
theorem yields_str {z : Str} : Yields C F μ s σ H (Its z) (signs z) := fun F1 μ1 s1 σ1 H1 x i => by
  refine ⟨fun hl => by simpa [signs, Its] using hl, fun d ed => ?_⟩
  unfold signs at ed
  rw [List.getElem?_map] at ed
  obtain ⟨c, ec, rfl⟩ := Option.map_eq_some_iff.mp ed
  have hc : z.cps[i]? = some c := by simpa using ec
  exact ⟨show i < z.cps.size from by simpa using lt_of_get ec, fun y H2 ⟨e2, c', e3, e4⟩ => by
    subst e2 e4
    rw [hc] at e3
    cases e3
    exact ⟨fun _ _ e => e, .str _⟩⟩
def rngD (lo : Int) (n : Nat) : List D := (List.range n).map fun i => .int (lo + (i : Nat))
theorem yields_rng {lo : Int} {n : Nat} : Yields C F μ s σ H (Itr lo n) (rngD lo n) := fun F1 μ1 s1 σ1 H1 x i => by
  refine ⟨fun hl => by simpa [rngD, Itr] using hl, fun d ed => ?_⟩
  unfold rngD at ed
  rw [List.getElem?_map] at ed
  obtain ⟨k, ek, rfl⟩ := Option.map_eq_some_iff.mp ed
  have hk := lt_of_get ek
  rw [List.getElem?_range (by simpa using hk)] at ek
  cases ek
  exact ⟨show i < n from by simpa using hk, fun y H2 ⟨e2, e3⟩ => by
    subst e2 e3
    exact ⟨fun _ _ e => e, .int _⟩⟩
def numbered (ds : List D) : List D := (List.range ds.length).zipWith (fun (i : Nat) d => .tup [.int i, d]) ds
theorem numbered_get {ds : List D} {i : Nat} {e : D} (h : (numbered ds)[i]? = some e) : ∃ d, ds[i]? = some d ∧ e = .tup [.int (i : Nat), d] := by
  unfold numbered at h
  rw [List.getElem?_zipWith] at h
  have hi : i < ds.length := by
    have := lt_of_get (l := List.zipWith (fun (i : Nat) d => D.tup [.int i, d]) (List.range ds.length) ds) (i := i) (d := e) (by rw [List.getElem?_zipWith]; exact h)
    simpa using this
  rw [List.getElem?_range hi, List.getElem?_eq_getElem hi] at h
  exact ⟨ds[i], List.getElem?_eq_getElem hi, by simpa using h.symm⟩
theorem numbered_length (ds : List D) : (numbered ds).length = ds.length := by simp [numbered]
theorem Rep.newPair (r : Rep C F μ s σ H) {p : Addr} {v w : V} {d e : D} (h : H p = none) (hv : At C (Tab F μ s σ) μ H v d) (hw : At C (Tab F μ s σ) μ H w e) : At C (Tab F μ s σ) μ (upd H p (.tup [v, w])) (.ref p) (.tup [d, e]) :=
  r.newTup h (.cons hv (.cons hw .nil))
theorem yields_enum {a : Addr} {ds : List D} (h : At C (Tab F μ s σ) μ H (.ref a) (.lst ds)) : Yields C F μ s σ H (Ite C.K a) (numbered ds) := fun F1 μ1 s1 σ1 H1 x i => by
  obtain ⟨b, vs, e, f, c⟩ := (x.at h).lst_inv
  cases e
  refine ⟨fun hl => ⟨vs, .of f.2, by rw [c.length]; simpa [numbered_length] using hl⟩, fun d ed => ?_⟩
  obtain ⟨d, ed2, rfl⟩ := numbered_get ed
  obtain ⟨v, ev, hv⟩ := c.at ed2
  exact ⟨⟨vs, v, .of f.2, ev⟩, fun y H2 ⟨T, z, e1, hT, e2, q⟩ => by
    subst e1 e2
    have := q vs (.of f.2)
    rw [ev] at this
    cases this
    exact ⟨fun p o e => by rw [upd_ne (ne_of_none e hT)]; exact e, x.rep.newPair hT (.int _) hv⟩⟩
def pairs (ds es : List D) : List D := ds.zipWith (fun d e => .tup [d, e]) es
theorem pairs_get {ds es : List D} {i : Nat} {z : D} (h : (pairs ds es)[i]? = some z) : ∃ d e, ds[i]? = some d ∧ es[i]? = some e ∧ z = .tup [d, e] := by
  unfold pairs at h
  rw [List.getElem?_zipWith] at h
  cases e1 : ds[i]? with
  | none => rw [e1] at h; cases h
  | some d =>
    cases e2 : es[i]? with
    | none => rw [e1, e2] at h; cases h
    | some e => rw [e1, e2] at h; exact ⟨d, e, rfl, rfl, by simpa using h.symm⟩
theorem yields_zip {a b : Addr} {ds es : List D} (h : At C (Tab F μ s σ) μ H (.ref a) (.lst ds)) (h' : At C (Tab F μ s σ) μ H (.ref b) (.lst es)) : Yields C F μ s σ H (Itz C.K a b) (pairs ds es) := fun F1 μ1 s1 σ1 H1 x i => by
  obtain ⟨_, vs, e, f, c⟩ := (x.at h).lst_inv
  cases e
  obtain ⟨_, ws, e, f', c'⟩ := (x.at h').lst_inv
  cases e
  refine ⟨fun hl => ⟨vs, ws, .of f.2, .of f'.2, ?_⟩, fun d ed => ?_⟩
  · have : min ds.length es.length ≤ i := by simpa [pairs] using hl
    rw [c.length, c'.length]
    omega
  · obtain ⟨d, e, e1, e2, rfl⟩ := pairs_get ed
    obtain ⟨v, ev, hv⟩ := c.at e1
    obtain ⟨w, ew, hw⟩ := c'.at e2
    exact ⟨⟨vs, ws, v, w, .of f.2, .of f'.2, ev, ew⟩, fun y H2 ⟨T, z1, z2, q1, hT, q2, q3, q4⟩ => by
      subst q1 q2
      have e3 := q3 vs (.of f.2)
      have e4 := q4 ws (.of f'.2)
      rw [ev] at e3
      rw [ew] at e4
      cases e3
      cases e4
      exact ⟨fun p o e => by rw [upd_ne (ne_of_none e hT)]; exact e, x.rep.newPair hT hv hw⟩⟩
theorem yields_zipT {a b : Addr} {ds es : List D} (h : At C (Tab F μ s σ) μ H (.ref a) (.tup ds)) (h' : At C (Tab F μ s σ) μ H (.ref b) (.tup es)) : Yields C F μ s σ H (ItzT C.K a b) (pairs ds es) := fun F1 μ1 s1 σ1 H1 x i => by
  obtain ⟨_, vs, e, f, c⟩ := (x.at h).tup_inv
  cases e
  obtain ⟨_, ws, e, f', c'⟩ := (x.at h').tup_inv
  cases e
  refine ⟨fun hl => ⟨vs, ws, SqTA.sq f, SqTA.sq f', ?_⟩, fun d ed => ?_⟩
  · have : min ds.length es.length ≤ i := by simpa [pairs] using hl
    rw [c.length, c'.length]
    omega
  · obtain ⟨d, e, e1, e2, rfl⟩ := pairs_get ed
    obtain ⟨v, ev, hv⟩ := c.at e1
    obtain ⟨w, ew, hw⟩ := c'.at e2
    exact ⟨⟨vs, ws, v, w, SqTA.sq f, SqTA.sq f', ev, ew⟩, fun y H2 ⟨T, z1, z2, q1, hT, q2, q3, q4⟩ => by
      subst q1 q2
      have e3 := q3 vs (SqTA.sq f)
      have e4 := q4 ws (SqTA.sq f')
      rw [ev] at e3
      rw [ew] at e4
      cases e3
      cases e4
      exact ⟨fun p o e => by rw [upd_ne (ne_of_none e hT)]; exact e, x.rep.newPair hT hv hw⟩⟩
end
/-! ### sources -/
theorem piOr {X : Cx} {tg e : Expr} {w1 w2 : TI} (h1 : PI X tg e w1) (h2 : PI X tg e w2) : PI X tg e (fun σ H R => w1 σ H R ∨ w2 σ H R) := ⟨fun pins s σ H R I q => q.elim (h1.run pins s σ H R I) (h2.run pins s σ H R I)⟩
theorem piImp {X : Cx} {tg e : Expr} {w1 w2 : TI} (h : PI X tg e w1) (i : ∀ σ H R, w2 σ H R → w1 σ H R) : PI X tg e w2 := ⟨fun pins s σ H R I q => h.run pins s σ H R I (i σ H R q)⟩
/-- a value's items -/
def D.items : D → Option (List D)
  | .tup l => some l
  | .lst l => some l
  | .scr l => some (l.map .int)
  | .str z => some (signs z)
  | _ => none
def M.opL (o : Option (List D)) : M (List D) := match o with
  | some l => pure l
  | none => M.stuck
def M.items (m : M D) : M (List D) := do M.opL (← m).items
def M.range1 (ms : List (M D)) : M (List D) := do
  match ← M.args ms with
  | [.int n] => if -(2 ^ 62) ≤ n ∧ n < 2 ^ 62 then pure (rngD 0 n.toNat) else M.stuck
  | _ => M.stuck
def M.range2 (ms : List (M D)) : M (List D) := do
  match ← M.args ms with
  | [.int a, .int b] => if -(2 ^ 62) ≤ a ∧ a < 2 ^ 62 ∧ -(2 ^ 62) ≤ b ∧ b < 2 ^ 62 then pure (rngD a (b - a).toNat) else M.stuck
  | _ => M.stuck
def D.enumL : D → Option (List D)
  | .lst l => some (numbered l)
  | _ => none
def M.enum (ms : List (M D)) : M (List D) := do
  match ← M.args ms with
  | [d] => M.opL d.enumL
  | _ => M.stuck
def M.zip (ms : List (M D)) : M (List D) := do
  match ← M.args ms with
  | [.lst a, .lst b] => pure (pairs a b)
  | [.tup a, .tup b] => pure (pairs a b)
  | _ => M.stuck
section
variable {X : Cx} {W : WX} {tg e e2 : Expr} {p pos tpos : Pos} {m m2 : M D} {elts : List Expr} {kk : Nat}
theorem di_val (h : PE X e (tD (XC X) W m)) : PI X tg e (tDI (XC X) W (M.items m)) := by
  refine piImp (piOr (pi_list h) (piOr (pi_tup h) (pi_str h))) fun σ H R ⟨F, μ, s, r, q⟩ => ?_
  have q := q.split
  have no : (∀ d s1, m s = .ok d s1 → d.items = none) → iList X.K (tD (XC X) W m) σ H R := fun hn => ⟨F, μ, s, r, by
    cases em : m s with
    | ok d s1 =>
      refine .mkOk em fun μ1 H1 x1 v hv => ?_
      have q2 := q.ok em μ1 H1 x1
      rw [show M.opL d.items = M.stuck by rw [hn d s1 em]; rfl] at q2
      exact (res_stuck q2).elim
    | _ => exact q.other (by rw [em]; intro _ _ z; cases z)⟩
  cases em : m s with
  | stuck => exact .inl (no fun d s1 z => by rw [em] at z; cases z)
  | exc z s1 => exact .inl (no fun d s1 z => by rw [em] at z; cases z)
  | ok d s1 =>
    have use : ∀ {t : V → Hp → Prop}, (∀ μ1 H1, Ext (XC X) F μ s σ H μ1 s1 σ H1 → ∀ v, AtX (XC X) F μ1 s1 σ H1 v d → (∀ l, d.items = some l → ∀ J, Yields (XC X) F μ1 s1 σ H1 J l → R J H1) → t v H1) → tD (XC X) W m σ H t := fun {t} k => ⟨F, μ, s, r, by
      refine .mkOk em fun μ1 H1 x1 v hv => k μ1 H1 x1 v hv fun l el J hJ => ?_
      have q2 := q.ok em μ1 H1 x1
      rw [show M.opL d.items = pure l by rw [el]; rfl] at q2
      exact (q2.pure x1.rep) J hJ⟩
    cases d with
    | lst l => exact .inl (use fun μ1 H1 x1 v hv k => by
        obtain ⟨a, vs, rfl, f, c⟩ := At.lst_inv hv
        exact ⟨a, rfl, ⟨vs, .of f.2⟩, k l rfl _ (yields_lst (C := XC X) hv)⟩)
    | scr l => exact .inl (use fun μ1 H1 x1 v hv k => by
        have hv2 : At (XC X) (Tab F μ1 s1 σ) μ1 H1 v (.scr l) := hv
        obtain ⟨a, rfl, hq⟩ := hv2.scr_inv
        exact ⟨_, rfl, ⟨_, hq⟩, k _ rfl _ (yields_scr (C := XC X) hv2)⟩)
    | tup l => exact .inr (.inl (use fun μ1 H1 x1 v hv k => by
        obtain ⟨a, vs, rfl, f, c⟩ := At.tup_inv hv
        exact ⟨a, rfl, ⟨vs, SqTA.sq f⟩, k l rfl _ (yields_tup (C := XC X) hv)⟩))
    | str z => exact .inr (.inr (use fun μ1 H1 x1 v hv k => by
        cases at_str hv
        exact ⟨z, rfl, k _ rfl _ yields_str⟩))
    | _ => exact .inl (no fun d s1 z => by rw [em] at z; cases z; rfl)
theorem di_range1 {a : Expr} (hg : Gl X "range") (hm : X.mg "range" = none) (ha : PA X [a] (tDA (XC X) W (M.args [m]))) (hs : starEach [a] X.env = [(false, eval a X.env)] := by rfl) : PI X tg (.Call (.Name "range" p) [a] [] pos) (tDI (XC X) W (M.range1 [m])) := by
  refine piImp (pi_range1 hg hm ha hs) fun σ H R ⟨F, μ, s, r, q⟩ => ⟨F, μ, s, r, q.split.imp fun ds μ1 s1 H1 x1 h1 vs hv => ?_⟩
  split at h1
  · split at h1
    · rename_i c
      cases hv with
      | cons h t =>
        cases t
        cases h.int_inv
        exact ⟨_, rfl, c.1, c.2, h1.pure x1.rep _ yields_rng⟩
    · exact h1.elim
  · exact h1.elim
theorem di_range2 {a b : Expr} (hg : Gl X "range") (hm : X.mg "range" = none) (ha : PA X [a, b] (tDA (XC X) W (M.args [m, m2]))) (hs : starEach [a, b] X.env = [(false, eval a X.env), (false, eval b X.env)] := by rfl) (hs2 : starEach [b] X.env = [(false, eval b X.env)] := by rfl) :
    PI X tg (.Call (.Name "range" p) [a, b] [] pos) (tDI (XC X) W (M.range2 [m, m2])) := by
  refine piImp (pi_range2 hg hm ha hs hs2) fun σ H R ⟨F, μ, s, r, q⟩ => ⟨F, μ, s, r, q.split.imp fun ds μ1 s1 H1 x1 h1 vs hv => ?_⟩
  split at h1
  · split at h1
    · rename_i c
      cases hv with
      | cons h t =>
        cases t with
        | cons h2 t =>
          cases t
          cases h.int_inv
          cases h2.int_inv
          exact ⟨_, _, rfl, c, h1.pure x1.rep _ yields_rng⟩
    · exact h1.elim
  · exact h1.elim
theorem di_enum (hg : Gl X "enumerate") (hm : X.mg "enumerate" = none) (ha : PA X [e] (tDA (XC X) W (M.args [m]))) (hs : starEach [e] X.env = [(false, eval e X.env)] := by rfl) :
    PI X (.Tuple elts kk tpos) (.Call (.Name "enumerate" p) [e] [] pos) (tDI (XC X) W (M.enum [m])) := by
  refine piImp (pi_enum hg hm ha hs) fun σ H R ⟨F, μ, s, r, q⟩ => ⟨F, μ, s, r, q.split.imp fun ds μ1 s1 H1 x1 h1 vs hv => ?_⟩
  split at h1
  · rename_i d
    cases hv with
    | cons h t =>
      cases t
      cases d with
      | lst l =>
        obtain ⟨a, ws, rfl, f, c⟩ := h.lst_inv
        exact ⟨a, ws, rfl, .of f.2, Res.pure x1.rep h1 _ (yields_enum (C := XC X) h)⟩
      | _ => exact (res_stuck h1).elim
  · exact h1.elim
theorem di_zip (hg : Gl X "zip") (hm : X.mg "zip" = none) (ha : PA X [e, e2] (tDA (XC X) W (M.args [m, m2]))) (hs : starEach [e, e2] X.env = (false, eval e X.env) :: starEach [e2] X.env := by rfl) (hs2 : ((backTo pos (starEach [e2] X.env)).any fun x => x.fst) = false := by rfl) :
    PI X (.Tuple elts kk tpos) (.Call (.Name "zip" p) [e, e2] [] pos) (tDI (XC X) W (M.zip [m, m2])) := by
  refine piImp (pi_zipA hg hm ha hs hs2) fun σ H R ⟨F, μ, s, r, q⟩ => ⟨F, μ, s, r, q.split.imp fun ds μ1 s1 H1 x1 h1 vs hv => ?_⟩
  split at h1
  · cases hv with
    | cons h t =>
      cases t with
      | cons h2 t =>
        cases t
        obtain ⟨a, ws, rfl, f, c⟩ := h.lst_inv
        obtain ⟨b, us, rfl, f2, c2⟩ := h2.lst_inv
        exact ⟨a, b, ws, us, rfl, .inl ⟨.of f.2, .of f2.2, h1.pure x1.rep _ (yields_zip (C := XC X) h h2)⟩⟩
  · cases hv with
    | cons h t =>
      cases t with
      | cons h2 t =>
        cases t
        obtain ⟨a, ws, rfl, f, c⟩ := h.tup_inv
        obtain ⟨b, us, rfl, f2, c2⟩ := h2.tup_inv
        exact ⟨a, b, ws, us, rfl, .inr ⟨SqTA.sq f, SqTA.sq f2, h1.pure x1.rep _ (yields_zipT (C := XC X) h h2)⟩⟩
  · exact h1.elim
end
end Ms
/-! Ms9: list comprehensions. -/
namespace Ms
open PySem PySem.Spec PyProof.Rows L2
def wipeR : List Nat → List Slot → List Slot
  | [], ρ => ρ
  | v :: vs, ρ => (wipeR vs ρ).set v .no
def M.wipe (vs : List Nat) : M Unit := fun s => .ok () { s with ρ := wipeR vs s.ρ }
def M.calm {α : Type} (m : M α) : M α := fun s => match m s with
  | .exc _ _ => .stuck
  | o => o
def M.compL (vs : List Nat) (t : Tgt) (c : M Bool) (e : M D) : List D → M (List D)
  | [] => pure []
  | d :: ds => do
    let _ ← M.bindTo t d
    if ← M.calm c then do
      let y ← M.calm e
      let y ← M.out y
      M.wipe vs
      let ys ← M.compL vs t c e ds
      pure (y :: ys)
    else do
      M.wipe vs
      M.compL vs t c e ds
def M.comp (vs : List Nat) (mi : M (List D)) (t : Tgt) (c : M Bool) (e : M D) : M (List D) := do
  let ds ← mi
  if lenOk (ds.length + 1) then do
    M.wipe vs
    M.compL vs t c e ds
  else M.stuck
section
variable {C : RC} {W : WX} {F : Addr → Prop} {μ μ' : List Addr} {s s' : Sta} {σ σ' : L2.St} {H H' : Hp}
theorem Rep.dropSlot (r : Rep C F μ s σ H) (i : Nat) : Ext C F μ s σ H μ { s with ρ := s.ρ.set i .no } σ H := by
  by_cases hi : i < s.ρ.length
  · have hσ : i < σ.length := by rw [← r.len]; exact hi
    have x := r.putNo (w := σ[i]) hi
    rw [List.set_getElem_self] at x
    exact x
  · rw [List.set_eq_of_length_le (by omega)]
    exact .refl r
theorem Rep.wipe (r : Rep C F μ s σ H) : ∀ vs : List Nat, Ext C F μ s σ H μ { s with ρ := wipeR vs s.ρ } σ H
  | [] => .refl r
  | v :: vs => (r.wipe vs).trans ((r.wipe vs).rep.dropSlot v)
theorem wipeR_no : ∀ {vs : List Nat} {ρ : List Slot} {i : Nat} {sl : Slot}, (wipeR vs ρ)[i]? = some sl → sl ≠ .no → i ∉ vs
  | [], _, _, _, _, _ => by simp
  | v :: vs, ρ, i, sl, e, n => by
    unfold wipeR at e
    by_cases hv : i = v
    · subst hv
      by_cases hi : i < (wipeR vs ρ).length
      · rw [List.getElem?_set_self hi] at e
        cases e
        exact absurd rfl n
      · rw [List.set_eq_of_length_le (by omega), List.getElem?_eq_none (by omega)] at e
        cases e
    · rw [List.getElem?_set_ne (Ne.symm hv)] at e
      exact fun z => (List.mem_cons.mp z).elim hv (wipeR_no e n)
theorem wipe_get : ∀ {vs : List Nat} {σ : L2.St} {i : Nat}, i ∉ vs → (L2.wipe σ vs)[i]? = σ[i]?
  | [], _, _, _ => rfl
  | v :: vs, σ, i, h => by
    unfold L2.wipe
    rw [List.getElem?_set_ne (fun z => h (by rw [z]; exact List.mem_cons_self)), wipe_get fun z => h (List.mem_cons_of_mem _ z)]
theorem Rep.toWipe {vs : List Nat} (r : Rep C F μ { s with ρ := wipeR vs s.ρ } σ H) : Rep C F μ { s with ρ := wipeR vs s.ρ } (L2.wipe σ vs) H :=
  r.reslot (L2.wipe_length σ vs) fun i sl e n => wipe_get (wipeR_no e n)
theorem Rep.ofWipe {vs : List Nat} (r : Rep C F μ { s with ρ := wipeR vs s.ρ } σ' H) (w : L2.wipe σ' vs = L2.wipe σ vs) : Rep C F μ { s with ρ := wipeR vs s.ρ } σ H := by
  refine r.reslot ?_ fun i sl e n => ?_
  · have := congrArg List.length w
    rw [L2.wipe_length, L2.wipe_length] at this
    exact this.symm
  · rw [← wipe_get (wipeR_no e n), ← w, wipe_get (wipeR_no e n)]
/-- a place of another's -/
abbrev Also (F : Addr → Prop) (p : Addr) : Addr → Prop := fun a => F a ∨ a = p
theorem Rep.forbid (r : Rep C F μ s σ H) {p : Addr} {o : HO} (hp : H p = none) : Rep C (Also F p) μ s σ (upd H p o) := by
  have g : ∀ a u, H a = some u → upd H p o a = some u := fun a u e => by rw [upd_ne (ne_of_none e hp)]; exact e
  have nm : ¬ Mine μ s σ p := fun m => r.free hp (.inr m)
  have k : Keep (Tab F μ s σ) (Tab (Also F p) μ s σ) H (upd H p o) := ⟨fun a u e _ => g a u e, fun a t => by
    rcases t with (t | t) | t
    · exact .inl (.inl t)
    · exact .inr (by rw [t]; exact hp)
    · exact .inl (.inr t)⟩
  refine ⟨r.len, fun i sl e => ?_, r.inj, r.lenG, fun x ob e => ?_, r.nd, r.sep, fun a t => ?_⟩
  · have q := r.slots i sl e
    cases sl with
    | no => trivial
    | val d => obtain ⟨v, e1, e2⟩ := q; exact ⟨v, e1, e2.keep k (List.prefix_refl _)⟩
    | own ob => obtain ⟨v, e1, e2⟩ := q; exact ⟨v, e1, e2.keep k (g v)⟩
  · obtain ⟨a, e1, e2⟩ := r.objs x ob e
    exact ⟨a, e1, e2.keep k (g a)⟩
  · rcases t with t | t
    · obtain ⟨u, q⟩ := Option.ne_none_iff_exists'.mp (r.far a t).1
      exact ⟨by rw [g a u q]; simp, (r.far a t).2⟩
    · subst t
      exact ⟨by rw [upd_same]; simp, nm⟩
theorem Frz.del {T : Addr → Prop} {a p : Addr} {u : HO} (f : Frz (fun x => T x ∨ x = p) H a u) : Frz T (L2.del H p) a u := ⟨fun t => f.1 (.inl t), by rw [del_ne (fun z => f.1 (.inr z))]; exact f.2⟩
theorem At.del {T : Addr → Prop} {p : Addr} {v : V} {d : D} (h : At C (fun x => T x ∨ x = p) μ H v d) : At C T μ (L2.del H p) v d := by
  induction h with
  | non => exact .non
  | bl b => exact .bl b
  | int i => exact .int i
  | str x => exact .str x
  | tup q l c ih => exact .tup (q.imp Frz.del id) l ih
  | lst q l c ih => exact .lst q.del l ih
  | dct n q l c ih => exact .dct (fun t => n (.inl t)) (q.keep fun o e => by rw [del_ne (fun z => n (.inr z))]; exact e) l ih
  | exc0 g q => exact .exc0 g q.del
  | exc1 g q hd hn hl c ih => exact .exc1 g q.del hd.del hn hl ih
  | excP0 g p hc hd hf => exact .excP0 g p hc hd hf
  | excP1 g p hc hx hf hd hn hl c ih => exact .excP1 g p hc hx hf hd.del hn hl ih
  | ref q => exact .ref q
  | @scr a l q =>
    refine .scr (q.imp (fun ⟨n, q⟩ => ?_) id)
    have ne : a ≠ p := fun z => n (.inr z)
    refine ⟨fun t => n (.inl t), ?_⟩
    rcases q with q | ⟨o, q⟩
    · exact .inl (by rw [del_ne ne]; exact q)
    · exact .inr ⟨o, by rw [del_ne ne]; exact q⟩
theorem AtL.del {T : Addr → Prop} {p : Addr} : ∀ {vs : List V} {ds : List D}, AtL C (fun x => T x ∨ x = p) μ H vs ds → AtL C T μ (L2.del H p) vs ds
  | _, _, .nil => .nil
  | _, _, .cons h t => .cons h.del t.del
theorem tab_also {p : Addr} : Tab (Also F p) μ s σ = fun x => Tab F μ s σ x ∨ x = p := by
  funext x
  unfold Tab
  exact propext ⟨fun t => t.elim (fun t => t.elim (fun t => .inl (.inl t)) .inr) fun t => .inl (.inr t), fun t => t.elim (fun t => t.elim (fun t => .inl (.inl t)) .inr) fun t => .inl (.inr t)⟩
theorem At.unalso {p : Addr} {v : V} {d : D} (h : At C (Tab (Also F p) μ s σ) μ H v d) : At C (Tab F μ s σ) μ (L2.del H p) v d := by
  rw [tab_also] at h
  exact h.del
theorem Rep.unforbid {p : Addr} (r : Rep C (Also F p) μ s σ H) (np : ¬ F p) : Rep C F μ s σ (L2.del H p) := by
  have nm : ∀ {a}, Mine μ s σ a → a ≠ p := fun {a} m z => (r.far p (.inr rfl)).2 (by rw [← z]; exact m)
  have lift : ∀ {a : Addr} {o : MO}, a ≠ p → RepO C (Tab (Also F p) μ s σ) μ H a o → RepO C (Tab F μ s σ) μ (L2.del H p) a o := fun {a o} n x => by
    rw [tab_also] at x
    cases o with
    | lst l => obtain ⟨vs, e, c⟩ := x; exact ⟨vs, by rw [del_ne n]; exact e, c.del⟩
    | dct t k l => obtain ⟨vs, e, c⟩ := x; exact ⟨vs, e.keep fun o q => by rw [del_ne n]; exact q, c.del⟩
    | ins c k l => obtain ⟨A, dx, fs, e1, e2, e3, c⟩ := x; exact ⟨A, dx, fs, e1, by rw [del_ne n]; exact e2, e3, c.del⟩
  refine ⟨r.len, fun i sl e => ?_, r.inj, r.lenG, fun x ob e => ?_, r.nd, r.sep, fun a t => ⟨?_, (r.far a (.inl t)).2⟩⟩
  · have q := r.slots i sl e
    cases sl with
    | no => trivial
    | val d => obtain ⟨v, e1, e2⟩ := q; exact ⟨v, e1, e2.unalso⟩
    | own ob => obtain ⟨v, e1, e2⟩ := q; exact ⟨v, e1, lift (nm (.inr ⟨i, ob, e, e1⟩)) e2⟩
  · obtain ⟨a, e1, e2⟩ := r.objs x ob e
    exact ⟨a, e1, lift (nm (.inl (List.mem_of_getElem? e1))) e2⟩
  · rw [del_ne (fun z => np (by rw [← z]; exact t))]
    exact (r.far a (.inl t)).1
theorem mine_wipe {vs : List Nat} {σ' : L2.St} (w : L2.wipe σ' vs = L2.wipe σ vs) : Mine μ { s with ρ := wipeR vs s.ρ } σ' = Mine μ { s with ρ := wipeR vs s.ρ } σ := by
  have e : ∀ {σ1 σ2 : L2.St}, L2.wipe σ1 vs = L2.wipe σ2 vs → ∀ a, OwnAt (wipeR vs s.ρ) σ1 a → OwnAt (wipeR vs s.ρ) σ2 a := fun {σ1 σ2} w a ⟨i, o, e1, e2⟩ => by
    have ni := wipeR_no e1 (by simp)
    exact ⟨i, o, e1, by rw [← wipe_get ni, ← w, wipe_get ni]; exact e2⟩
  funext a
  exact propext (or_congr Iff.rfl ⟨e w a, e w.symm a⟩)
theorem wipe_idem : ∀ (vs : List Nat) (σ : L2.St), L2.wipe (L2.wipe σ vs) vs = L2.wipe σ vs := fun vs σ => by
  apply List.ext_getElem?
  intro i
  by_cases hi : i ∈ vs
  · have hn : ∀ {l : List Nat} {τ : L2.St}, i ∈ l → τ.length = σ.length → (L2.wipe τ l)[i]? = if i < σ.length then some none else none := fun {l τ} hm hl => by
      induction l with
      | nil => cases hm
      | cons v l ih =>
        unfold L2.wipe
        by_cases hv : v = i
        · subst hv
          by_cases h : v < σ.length
          · rw [if_pos h, List.getElem?_set_self (by rw [L2.wipe_length, hl]; exact h)]
          · rw [if_neg h, List.getElem?_eq_none (by rw [List.length_set, L2.wipe_length, hl]; omega)]
        · rw [List.getElem?_set_ne hv]
          exact ih ((List.mem_cons.mp hm).resolve_left (fun z => hv z.symm))
    rw [hn hi (L2.wipe_length σ vs), hn hi rfl]
  · rw [wipe_get hi]
theorem M.bind_ok {α β : Type} {m : M α} {k : α → M β} {s s2 : Sta} {b : β} (h : (m >>= k) s = .ok b s2) : ∃ a s1, m s = .ok a s1 ∧ k a s1 = .ok b s2 := by
  have h1 : M.bind m k s = .ok b s2 := h
  unfold M.bind at h1
  split at h1
  · exact ⟨_, _, by assumption, h1⟩
  · cases h1
  · cases h1
theorem M.bind_exc {α β : Type} {m : M α} {k : α → M β} {s s2 : Sta} {z : D} (h : (m >>= k) s = .exc z s2) : m s = .exc z s2 ∨ ∃ a s1, m s = .ok a s1 ∧ k a s1 = .exc z s2 := by
  have h1 : M.bind m k s = .exc z s2 := h
  unfold M.bind at h1
  split at h1
  · exact .inr ⟨_, _, by assumption, h1⟩
  · cases h1; exact .inl (by assumption)
  · cases h1
theorem M.calm_ok {α : Type} {m : M α} {s s2 : Sta} {a : α} (h : M.calm m s = .ok a s2) : m s = .ok a s2 := by
  unfold M.calm at h
  split at h
  · cases h
  · exact h
theorem M.calm_exc {α : Type} {m : M α} {s s2 : Sta} {z : D} (h : M.calm m s = .exc z s2) : False := by
  unfold M.calm at h
  split at h
  · cases h
  · rename_i n
    exact n _ _ h
theorem M.out_ok {d y : D} {s s2 : Sta} (h : M.out d s = .ok y s2) : d.isOwn = false ∧ y = d ∧ s2 = s := by
  unfold M.out at h
  cases e : d.isOwn with
  | true => rw [e] at h; cases h
  | false => rw [e] at h; cases h; exact ⟨rfl, rfl, rfl⟩
theorem bindTo_nx {t : Tgt} {d : D} {s s' : Sta} {f : Fl} (h : M.bindTo t d s = .ok f s') : f = .nx := by
  unfold M.bindTo at h
  cases t with
  | one i => simp only at h; split at h <;> cases h; rfl
  | many is =>
    simp only at h
    split at h
    · split at h <;> cases h; rfl
    · cases h
theorem bindTo_noexc {t : Tgt} {d z : D} {s s' : Sta} (h : M.bindTo t d s = .exc z s') : False := by
  unfold M.bindTo at h
  cases t with
  | one i => simp only at h; split at h <;> cases h
  | many is =>
    simp only at h
    split at h
    · split at h <;> cases h
    · cases h
theorem compL_cons {vs : List Nat} {t : Tgt} {c : M Bool} {e : M D} {d : D} {ds ys : List D} {s se : Sta} (h : M.compL vs t c e (d :: ds) s = .ok ys se) : ∃ s3 b s4, M.bindTo t d s = .ok .nx s3 ∧ c s3 = .ok b s4 ∧
    ((b = true ∧ ∃ y s5 ys', e s4 = .ok y s5 ∧ y.isOwn = false ∧ M.compL vs t c e ds { s5 with ρ := wipeR vs s5.ρ } = .ok ys' se ∧ ys = y :: ys') ∨ (b = false ∧ M.compL vs t c e ds { s4 with ρ := wipeR vs s4.ρ } = .ok ys se)) := by
  unfold M.compL at h
  obtain ⟨f, s3, h1, g1⟩ := M.bind_ok h
  cases bindTo_nx h1
  obtain ⟨b, s4, h2, g2⟩ := M.bind_ok g1
  refine ⟨s3, b, s4, h1, M.calm_ok h2, ?_⟩
  cases b with
  | true =>
    rw [if_pos rfl] at g2
    obtain ⟨y, s5, h3, g3⟩ := M.bind_ok g2
    obtain ⟨y', s5', h4, g4⟩ := M.bind_ok g3
    obtain ⟨n, e1, e2⟩ := M.out_ok h4
    subst e1 e2
    obtain ⟨_, s6, h5, g5⟩ := M.bind_ok g4
    cases h5
    obtain ⟨ys', s7, h6, g6⟩ := M.bind_ok g5
    cases g6
    exact .inl ⟨rfl, _, _, ys', M.calm_ok h3, n, h6, rfl⟩
  | false =>
    rw [if_neg (by simp)] at g2
    obtain ⟨_, s6, h5, g5⟩ := M.bind_ok g2
    cases h5
    exact .inr ⟨rfl, g5⟩
theorem compL_noexc {vs : List Nat} {t : Tgt} {c : M Bool} {e : M D} : ∀ {ds : List D} {s se : Sta} {z : D}, M.compL vs t c e ds s = .exc z se → False
  | [], _, _, _, h => by cases h
  | d :: ds, s, se, z, h => by
    unfold M.compL at h
    rcases M.bind_exc h with h | ⟨f, s3, _, h⟩
    · exact bindTo_noexc h
    · rcases M.bind_exc h with h | ⟨b, s4, _, h⟩
      · exact M.calm_exc h
      · cases b with
        | true =>
          rw [if_pos rfl] at h
          rcases M.bind_exc h with h | ⟨y, s5, _, h⟩
          · exact M.calm_exc h
          · rcases M.bind_exc h with h | ⟨y', s6, _, h⟩
            · unfold M.out at h
              split at h <;> cases h
            · rcases M.bind_exc h with h | ⟨_, s7, _, h⟩
              · cases h
              · rcases M.bind_exc h with h | ⟨ys, s8, _, h⟩
                · exact compL_noexc h
                · cases h
        | false =>
          rw [if_neg (by simp)] at h
          rcases M.bind_exc h with h | ⟨_, s7, _, h⟩
          · cases h
          · exact compL_noexc h
end
/-- no exception is wished for -/
def W0 : WX := fun _ _ _ _ => False
section
variable {X : Cx} {W : WX} {elt tg iter cnd : Expr} {ifs : List Expr} {scope : Scope} {own : List (Str × Nat)} {pos : Pos} {mi : M (List D)} {t : Tgt} {mc : M Bool} {me : M D}
theorem dts_nil : PTs X [] (tDB (XC X) W (pure true)) := ⟨fun pins s σ H Q I ⟨F, μ, s', r, q⟩ => pts_nil.run pins s σ H Q I (q.pure r)⟩
theorem dts_one (h : PT X cnd (tDB (XC X) W mc)) : PTs X [cnd] (tDB (XC X) W mc) := pts_one h
theorem upd_del {H : Hp} {p : Addr} {o : HO} : upd (L2.del H p) p o = upd H p o := by
  funext b
  by_cases h : b = p
  · rw [h, upd_same, upd_same]
  · rw [upd_ne h, upd_ne h, del_ne h]
/-- a turn of a block, seen from around -/
theorem block_step {C : RC} {F : Addr → Prop} {μ μ5 : List Addr} {s s5 : Sta} {σ σ2 : L2.St} {Hd H2 H5 : Hp} {p : Addr} {o : HO} {vs : List Nat} (hp : Hd p = none) (np : ¬ F p) (g : ∀ a u, upd Hd p o a = some u → H2 a = some u)
    (nm : ¬ Mine μ { s with ρ := wipeR vs s.ρ } (L2.wipe σ vs) p) (x : Ext C (Also F p) μ { s with ρ := wipeR vs s.ρ } (L2.wipe σ vs) H2 μ5 s5 σ2 H5) (w : L2.wipe σ2 vs = L2.wipe σ vs) :
    Ext C F μ { s with ρ := wipeR vs s.ρ } σ Hd μ5 { s5 with ρ := wipeR vs s5.ρ } σ (L2.del H5 p) ∧ H5 p = some o ∧
      ∀ {v : V} {d : D}, At C (Tab (Also F p) μ5 s5 σ2) μ5 H5 v d → At C (Tab F μ5 { s5 with ρ := wipeR vs s5.ρ } σ) μ5 (L2.del H5 p) v d := by
  have y := x.rep.wipe vs
  have r2 := y.rep.ofWipe w
  have m0 := mine_wipe (μ := μ) (s := s) (vs := vs) (wipe_idem vs σ)
  have m5 := mine_wipe (μ := μ5) (s := s5) (vs := vs) w
  have k := (x.trans y).keep
  rw [m0, m5] at k
  have g2 : ∀ a u, Hd a = some u → H2 a = some u := fun a u e => g a u (by rw [upd_ne (ne_of_none e hp)]; exact e)
  have hp5 : H5 p = some o := x.keep.stay p o (g p o upd_same) nm
  refine ⟨⟨x.pre, ⟨fun a u e n => ?_, fun a t => ?_⟩, r2.unforbid np, rfl⟩, hp5, fun {v d} h => ?_⟩
  · rw [del_ne (ne_of_none e hp)]
    exact k.stay a u (g2 a u e) n
  · rcases k.new a t with q | q
    · exact .inl q
    · refine .inr ?_
      cases e : Hd a with
      | none => rfl
      | some u => rw [g2 a u e] at q; cases q
  · have h2 := y.at h
    have e : Tab (Also F p) μ5 { s5 with ρ := wipeR vs s5.ρ } σ2 = Tab (Also F p) μ5 { s5 with ρ := wipeR vs s5.ρ } σ := by
      unfold Tab
      rw [m5]
    rw [e] at h2
    exact h2.unalso
theorem tLc_of (hown : t.all = own.map (·.2)) (σ : L2.St) (H : Hp) (Q : VK) (h0 : tDF (XC X) W (M.comp (own.map (·.2)) mi t mc me) σ H Q) : tLc (tDI (XC X) W mi) (gOf X.K t) (tDB (XC X) W0 mc) (tD (XC X) W0 me) (own.map (·.2)) σ H Q := by
  obtain ⟨F, μ, s, r, q⟩ := h0
  generalize hvs : own.map (·.2) = vs at *
  refine ⟨F, μ, s, r, q.split.imp fun ds μ1 s1 H1 x1 h1 J hJ => ?_⟩
  obtain ⟨hl, h1⟩ := res_if h1
  intro D hD
  have ew : (M.wipe vs >>= fun _ => M.compL vs t mc me ds) s1 = M.compL vs t mc me ds { s1 with ρ := wipeR vs s1.ρ } := rfl
  cases hc : M.compL vs t mc me ds { s1 with ρ := wipeR vs s1.ρ } with
  | exc z se => exact (compL_noexc hc).elim
  | stuck =>
    have h2 := h1
    unfold Res at h2
    rw [ew, hc] at h2
    exact h2.elim
  | ok zs se =>
    have hK := h1.ok (ew.trans hc)
    have nF : ¬ F D := fun z => (x1.rep.far D z).1 hD
    refine ⟨fun i m Hc => m = ds.length - i ∧ ∃ (μ' : List Addr) (s' : Sta) (Hd : Hp) (acc : List V) (dn ys : List Ms.D), Hc = upd Hd D (.lst acc) ∧ Hd D = none ∧ Ext (XC X) F μ1 s1 σ H1 μ' { s' with ρ := wipeR vs s'.ρ } σ Hd ∧
      AtL (XC X) (Tab F μ' { s' with ρ := wipeR vs s'.ρ } σ) μ' Hd acc dn ∧ M.compL vs t mc me (ds.drop i) { s' with ρ := wipeR vs s'.ρ } = .ok ys se ∧ dn ++ ys = zs ∧ dn.length ≤ i,
      ⟨_, rfl, μ1, s1, H1, [], [], zs, rfl, hD, x1.rep.wipe vs, .nil, hc, rfl, Nat.le_refl _⟩, ?_⟩
    rintro i m Hc ⟨rfl, μ', s', Hd, acc, dn, ys, rfl, hDd, x2, ha, hcc, hz, hdn⟩
    have xc : ExtF (XC X) F μ1 s1 σ H1 (Also F D) μ' { s' with ρ := wipeR vs s'.ρ } σ (upd Hd D (.lst acc)) :=
      ⟨fun a t => t.elim .inl fun z => .inr (by rw [z]; exact hD), x2.pre, x2.keep.trans ⟨fun a u e _ => by rw [upd_ne (ne_of_none e hDd)]; exact e, fun _ t => .inl t⟩, x2.rep.forbid hDd⟩
    obtain ⟨y1, y2⟩ := hJ _ _ _ _ _ xc i
    cases ed : ds[i]? with
    | none =>
      have hl2 : ds.length ≤ i := List.getElem?_eq_none_iff.mp ed
      rw [List.drop_eq_nil_of_le hl2] at hcc
      cases hcc
      rw [List.append_nil] at hz
      subst hz
      exact .inl ⟨y1 hl2, hK _ _ x2 D acc hDd ha⟩
    | some d =>
      obtain ⟨hl2, ed'⟩ := List.getElem?_eq_some_iff.mp ed
      obtain ⟨go, y3⟩ := y2 d ed
      rw [List.drop_eq_getElem_cons hl2, ed'] at hcc
      obtain ⟨s3, b, s4, e3, e4, rest⟩ := compL_cons hcc
      refine .inr ⟨go, fun H' => ds.length - (i + 1) = ds.length - (i + 1) ∧ ∃ (μ' : List Addr) (s' : Sta) (Hd : Hp) (acc : List V) (dn ys : List Ms.D), H' = upd Hd D (.lst acc) ∧ Hd D = none ∧ Ext (XC X) F μ1 s1 σ H1 μ' { s' with ρ := wipeR vs s'.ρ } σ Hd ∧
        AtL (XC X) (Tab F μ' { s' with ρ := wipeR vs s'.ρ } σ) μ' Hd acc dn ∧ M.compL vs t mc me (ds.drop (i + 1)) { s' with ρ := wipeR vs s'.ρ } = .ok ys se ∧ dn ++ ys = zs ∧ dn.length ≤ i + 1, fun H' w => ⟨ds.length - (i + 1), by omega, w⟩, fun x H2 yl => ?_⟩
      obtain ⟨g2, y5⟩ := y3 x H2 yl
      have r2 : Rep (XC X) (Also F D) μ' { s' with ρ := wipeR vs s'.ρ } (L2.wipe σ vs) H2 := (xc.rep.grow g2).toWipe
      have m0 := mine_wipe (μ := μ') (s := s') (vs := vs) (wipe_idem vs σ)
      have y6 : At (XC X) (Tab (Also F D) μ' { s' with ρ := wipeR vs s'.ρ } (L2.wipe σ vs)) μ' H2 x d := by
        unfold Tab
        rw [m0]
        exact y5
      refine gOf_ok (C := XC X) r2 y6 e3 fun σ2 x3 w => ?_
      rw [hown] at w
      rw [wipe_idem] at w
      have nm : ¬ Mine μ' { s' with ρ := wipeR vs s'.ρ } (L2.wipe σ vs) D := fun z => (r2.far D (.inr rfl)).2 z
      refine ⟨w, (Also F D), μ', s3, x3.rep, Res.mkOk e4 fun μ4 H4 x4 => ?_⟩
      have lenDn : ∀ {l : List V}, AtL (XC X) (Tab F μ' { s' with ρ := wipeR vs s'.ρ } σ) μ' Hd l dn → l.length < sizeLine := fun {l} h => by
        have h3 := lenOk_line hl
        have h4 := h.length
        omega
      rcases rest with ⟨rfl, y, s5, ys', e5, ny, e6, rfl⟩ | ⟨rfl, e6⟩
      · refine iteT ?_
        refine ⟨(Also F D), μ4, s4, x4.rep, Res.mkOk e5 fun μ5 H5 x5 v hv => ?_⟩
        obtain ⟨z1, z2, z3⟩ := block_step hDd nF g2 nm ((x3.trans x4).trans x5) w
        exact ⟨acc, z2, lenDn ha, rfl, μ5, s5, _, acc ++ [v], dn ++ [y], ys', upd_del.symm, del_same, x2.trans z1, (z1.atL ha).append (.cons (z3 (hv.at ny)) .nil), e6, by rw [← hz]; simp, by simpa using hdn⟩
      · refine iteF ?_
        obtain ⟨z1, z2, z3⟩ := block_step hDd nF g2 nm (x3.trans x4) w
        exact ⟨rfl, μ4, s4, _, acc, dn, ys, by
          funext a
          by_cases h : a = D
          · rw [h, upd_same, z2]
          · rw [upd_ne h, del_ne h], del_same, x2.trans z1, z1.atL ha, e6, hz, Nat.le_succ_of_le hdn⟩
theorem df_comp (hc : X.calm = true) (hN : X.N.Nodup) (hi : PI X tg iter (tDI (XC X) W mi)) (ok : BlkOk X.N X.env.scope scope own) (hown : t.all = own.map (·.2))
    (hg : ∀ (s : Shared) (H : Hp) (Cc : Addr) (cl : List (Str × Addr)) (fp : List Addr), PG (X.blk s H scope (compEnvC scope cl Cc X.env) fp) tg (gOf X.K t))
    (ht : ∀ (s : Shared) (H : Hp) (Cc : Addr) (cl : List (Str × Addr)) (fp : List Addr), PTs (X.blk s H scope (compEnvC scope cl Cc X.env) fp) ifs (tDB (XC X) W0 mc))
    (he : ∀ (s : Shared) (H : Hp) (Cc : Addr) (cl : List (Str × Addr)) (fp : List Addr), PE (X.blk s H scope (compEnvC scope cl Cc X.env) fp) elt (tD (XC X) W0 me)) (hs : ∀ x, foldedSetIterable iter X.env x = pure x := by intro _; rfl) :
    PE X (.ListComp elt [⟨tg, iter, ifs, 0⟩] scope pos) (tDF (XC X) W (M.comp (own.map (·.2)) mi t mc me)) := by
  exact peImp (pe_lc hc hN hi ok hg ht he hs) (tLc_of hown)
theorem ds_setComp {x : Str} {i : Nat} {py spos : Pos} (hc : X.calm = true) (hN : X.N.Nodup) (hy : X.N[i]? = some x) (hyl : X.env.scope.names.lookup x = some .local) (hsw : swapsWith (.ListComp elt [⟨tg, iter, ifs, 0⟩] scope pos) (some (.Name x py)) spos.line X.env = pure true) (hi : PI X tg iter (tDI (XC X) W mi)) (ok : BlkOk X.N X.env.scope scope own) (hown : t.all = own.map (·.2))
    (hg : ∀ (s : Shared) (H : Hp) (Cc : Addr) (cl : List (Str × Addr)) (fp : List Addr), PG (X.blk s H scope (compEnvC scope cl Cc X.env) fp) tg (gOf X.K t))
    (ht : ∀ (s : Shared) (H : Hp) (Cc : Addr) (cl : List (Str × Addr)) (fp : List Addr), PTs (X.blk s H scope (compEnvC scope cl Cc X.env) fp) ifs (tDB (XC X) W0 mc))
    (he : ∀ (s : Shared) (H : Hp) (Cc : Addr) (cl : List (Str × Addr)) (fp : List Addr), PE (X.blk s H scope (compEnvC scope cl Cc X.env) fp) elt (tD (XC X) W0 me)) (hs : ∀ x, foldedSetIterable iter X.env x = pure x := by intro _; rfl) :
    PS X (.Assign [.Name x py] (.ListComp elt [⟨tg, iter, ifs, 0⟩] scope pos) spos) (tDS (XC X) W (M.set i (M.lst (M.comp (own.map (·.2)) mi t mc me)))) :=
  psImp (ps_setLc hc hN hy hyl hsw hi ok hg ht he hs) fun E σ H ⟨F, μ, s, r, q⟩ => tLc_of hown σ H _ ⟨F, μ, s, r, q.splitE.split.imp fun ds μ1 s1 H1 x1 h1 p vs hp hv => by
    have h2 := h1.pure x1.rep
    obtain ⟨n, h2⟩ := resS_out x1.rep h2
    obtain ⟨hl, h2⟩ := resS_put h2
    have x2 := x1.rep.ext1 (o := .lst vs) hp
    exact h2 _ _ _ (x2.trans (x2.rep.putVal hl (x1.rep.newLst hp hv)))⟩
theorem ds_setOwnComp {x : Str} {i : Nat} {py spos : Pos} (hc : X.calm = true) (hN : X.N.Nodup) (hy : X.N[i]? = some x) (hyl : X.env.scope.names.lookup x = some .local) (hsw : swapsWith (.ListComp elt [⟨tg, iter, ifs, 0⟩] scope pos) (some (.Name x py)) spos.line X.env = pure true) (hi : PI X tg iter (tDI (XC X) W mi)) (ok : BlkOk X.N X.env.scope scope own) (hown : t.all = own.map (·.2))
    (hg : ∀ (s : Shared) (H : Hp) (Cc : Addr) (cl : List (Str × Addr)) (fp : List Addr), PG (X.blk s H scope (compEnvC scope cl Cc X.env) fp) tg (gOf X.K t))
    (ht : ∀ (s : Shared) (H : Hp) (Cc : Addr) (cl : List (Str × Addr)) (fp : List Addr), PTs (X.blk s H scope (compEnvC scope cl Cc X.env) fp) ifs (tDB (XC X) W0 mc))
    (he : ∀ (s : Shared) (H : Hp) (Cc : Addr) (cl : List (Str × Addr)) (fp : List Addr), PE (X.blk s H scope (compEnvC scope cl Cc X.env) fp) elt (tD (XC X) W0 me)) (hs : ∀ x, foldedSetIterable iter X.env x = pure x := by intro _; rfl) :
    PS X (.Assign [.Name x py] (.ListComp elt [⟨tg, iter, ifs, 0⟩] scope pos) spos) (tDS (XC X) W (M.setOwn i (M.comp (own.map (·.2)) mi t mc me))) :=
  psImp (ps_setLc hc hN hy hyl hsw hi ok hg ht he hs) fun E σ H ⟨F, μ, s, r, q⟩ => tLc_of hown σ H _ ⟨F, μ, s, r, q.splitE.imp fun ds μ1 s1 H1 x1 h1 p vs hp hv => by
    obtain ⟨hl, h2⟩ := resS_put h1
    exact h2 _ _ _ (x1.rep.putLst hl hp hv)⟩
end
end Ms
/-! Ms10: defs and calls. -/
namespace Ms
open PySem PySem.Spec PyProof.Rows L2
inductive FOut where
  | ok (d : D) (G : List MO) | exc (e : D) (G : List MO) | stuck
abbrev Fn := List D → List MO → FOut
/-- a def: so many slots, so many parameters, its body -/
def runFn (N n : Nat) (body : M Fl) : Fn := fun ds G => if ds.length = n then
    match body ⟨ds.map .val ++ List.replicate (N - n) .no, G⟩ with
    | .ok (.rt d) s => .ok d s.G
    | .ok .nx s => .ok .non s.G
    | .exc e s => .exc e s.G
    | _ => .stuck
  else .stuck
def M.fn (f : Fn) (ds : List D) : M D := fun s => match f ds s.G with
  | .ok d G => .ok d { s with G := G }
  | .exc e G => .exc e { s with G := G }
  | .stuck => .stuck
def M.call (f : Fn) (ms : List (M D)) : M D := do M.fn f (← M.args ms)
def ResF (C : RC) (F : Addr → Prop) (μ : List Addr) (G : List MO) (H : Hp) (r : FOut) (Q : VK) (E : XK) : Prop := match r with
  | .ok d G' => ∀ v μ' H', Ext C F μ ⟨[], G⟩ [] H μ' ⟨[], G'⟩ [] H' → At C (Tab F μ' ⟨[], G'⟩ []) μ' H' v d → Q v H'
  | .exc e G' => ∀ cls dx μ' H', Ext C F μ ⟨[], G⟩ [] H μ' ⟨[], G'⟩ [] H' → XAt C (Tab F μ' ⟨[], G'⟩ []) μ' H' cls dx e → E cls dx H'
  | .stuck => False
def spOf (C : RC) (n : Nat) (f : Fn) : Sp := fun vs H Q E => vs.length = n ∧ ∃ F μ G ds, Rep C F μ ⟨[], G⟩ [] H ∧ AtL C (Tab F μ ⟨[], G⟩ []) μ H vs ds ∧ ResF C F μ G H (f ds G) Q E
section
variable {C : RC} {F : Addr → Prop} {μ μ' : List Addr} {s s' : Sta} {σ σ' : L2.St} {H H' : Hp}
theorem RepO.mono {T T' : Addr → Prop} (h : ∀ a, T' a → T a) {a : Addr} {o : MO} (x : RepO C T μ H a o) : RepO C T' μ H a o := by
  cases o with
  | lst l => obtain ⟨vs, e, c⟩ := x; exact ⟨vs, e, c.mono h⟩
  | dct t k l => obtain ⟨vs, e, c⟩ := x; exact ⟨vs, e, c.mono h⟩
  | ins c k l => obtain ⟨A, dx, fs, e1, e2, e3, c⟩ := x; exact ⟨A, dx, fs, e1, e2, e3, c.mono h⟩
theorem no_own {G : List MO} {a : Addr} : ¬ OwnAt (Sta.ρ ⟨[], G⟩) [] a := fun ⟨i, o, e, _⟩ => by
  have e : ([] : List Slot)[i]? = some (.own o) := e
  simp at e
theorem XAt.mono {T T' : Addr → Prop} (h : ∀ a, T' a → T a) {cls : Value} {dx : Option Addr} {e : D} (x : XAt C T μ H cls dx e) : XAt C T' μ H cls dx e := by
  cases e with
  | exc c n d =>
    obtain ⟨A, e1, e2, q⟩ := x
    refine ⟨A, e1, e2, q.imp id fun ⟨nn, q, fs, v, e3, e4, e5, e6, e7⟩ => ⟨nn, q, fs, v, e3, e4, fun t => e5 (h _ t), e6, e7.mono h⟩⟩
  | _ => exact x.elim
/-- the shared things alone -/
theorem Rep.bare (r : Rep C F μ s σ H) : Rep C F μ ⟨[], s.G⟩ [] H := by
  have h : ∀ a, Tab F μ ⟨[], s.G⟩ [] a → Tab F μ s σ a := fun a t => t.elim .inl fun t => t.elim (fun t => .inr (.inl t)) fun t => (no_own t).elim
  refine ⟨rfl, fun i sl e => ?_, fun i j oi oj a e => ?_, r.lenG, fun g o e => ?_, r.nd, fun a ha t => no_own t, fun a t => ⟨(r.far a t).1, fun m => m.elim (fun m => (r.far a t).2 (.inl m)) no_own⟩⟩
  · have e : ([] : List Slot)[i]? = some sl := e
    simp at e
  · have e : ([] : List Slot)[i]? = some (.own oi) := e
    simp at e
  · obtain ⟨a, e1, e2⟩ := r.objs g o e
    exact ⟨a, e1, e2.mono h⟩
theorem tab_bare {a : Addr} (t : Tab F μ ⟨[], s.G⟩ [] a) : Tab F μ s σ a := t.elim .inl fun t => t.elim (fun t => .inr (.inl t)) fun t => (no_own t).elim
/-- a frame that owns nothing is left -/
theorem Ext.leave (x : Ext C F μ s σ H μ' s' σ' H') (n : ∀ a, ¬ OwnAt s.ρ σ a) : Ext C F μ ⟨[], s.G⟩ [] H μ' ⟨[], s'.G⟩ [] H' :=
  ⟨x.pre, ⟨fun a o e m => x.keep.stay a o e fun t => t.elim (fun t => m (.inl t)) (n a), fun a t => t.elim (fun t => (x.keep.new a (.inl t)).imp (fun q => q.elim .inl fun q => (n a q).elim) id) fun t => (no_own t).elim⟩, x.rep.bare, rfl⟩
/-- a call is made: what the caller owns is another's -/
theorem Rep.toCall (r : Rep C F μ s σ H) : Rep C (fun a => F a ∨ OwnAt s.ρ σ a) μ ⟨[], s.G⟩ [] H := by
  have h : ∀ a, Tab (fun a => F a ∨ OwnAt s.ρ σ a) μ ⟨[], s.G⟩ [] a → Tab F μ s σ a := fun a t => by
    rcases t with (t | t) | t | t
    · exact .inl t
    · exact .inr (.inr t)
    · exact .inr (.inl t)
    · exact (no_own t).elim
  have b := r.bare
  refine ⟨rfl, fun i sl e => ?_, b.inj, r.lenG, fun g o e => ?_, r.nd, b.sep, fun a t => ?_⟩
  · have e : ([] : List Slot)[i]? = some sl := e
    simp at e
  · obtain ⟨a, e1, e2⟩ := r.objs g o e
    exact ⟨a, e1, e2.mono h⟩
  · rcases t with t | t
    · exact ⟨(r.far a t).1, fun m => m.elim (fun m => (r.far a t).2 (.inl m)) no_own⟩
    · exact ⟨r.tabSome (.inr (.inr t)), fun m => m.elim (fun m => r.sep a m t) no_own⟩
theorem AtL.toCall {vs : List V} {ds : List D} (h : AtL C (Tab F μ s σ) μ H vs ds) : AtL C (Tab (fun a => F a ∨ OwnAt s.ρ σ a) μ ⟨[], s.G⟩ []) μ H vs ds := h.mono fun a t => by
  rcases t with (t | t) | t | t
  · exact .inl t
  · exact .inr (.inr t)
  · exact .inr (.inl t)
  · exact (no_own t).elim
theorem tab_call {G' : List MO} {a : Addr} (t : Tab F μ' { s with G := G' } σ a) : Tab (fun a => F a ∨ OwnAt s.ρ σ a) μ' ⟨[], G'⟩ [] a := by
  rcases t with t | t | t
  · exact .inl (.inl t)
  · exact .inr (.inl t)
  · exact .inl (.inr t)
/-- behind a call -/
theorem Ext.ofCall {G' : List MO} (r : Rep C F μ s σ H) (x : Ext C (fun a => F a ∨ OwnAt s.ρ σ a) μ ⟨[], s.G⟩ [] H μ' ⟨[], G'⟩ [] H') : Ext C F μ s σ H μ' { s with G := G' } σ H' := by
  have stay : ∀ a o, H a = some o → a ∉ μ → H' a = some o := fun a o e n => x.keep.stay a o e fun m => m.elim n no_own
  have new : ∀ a, a ∈ μ' → a ∈ μ ∨ H a = none := fun a m => (x.keep.new a (.inl m)).imp (fun q => q.elim id fun q => (no_own q).elim) id
  have kp : Keep (Mine μ s σ) (Mine μ' { s with G := G' } σ) H H' := ⟨fun a o e n => stay a o e fun m => n (.inl m), fun a t => t.elim (fun t => (new a t).imp .inl id) fun t => .inl (.inr t)⟩
  have kt : Keep (Tab F μ s σ) (Tab F μ' { s with G := G' } σ) H H' := kp.tab
  refine ⟨x.pre, kp, ⟨r.len, fun i sl e => ?_, r.inj, x.rep.lenG, fun g o e => ?_, x.rep.nd, fun a m t => ?_, fun a t => ⟨(x.rep.far a (.inl t)).1, fun m => ?_⟩⟩, rfl⟩
  · have q := r.slots i sl e
    cases sl with
    | no => trivial
    | val d => obtain ⟨v, e1, e2⟩ := q; exact ⟨v, e1, e2.keep kt x.pre⟩
    | own o =>
      obtain ⟨v, e1, e2⟩ := q
      refine ⟨v, e1, ?_⟩
      have nm : v ∉ μ := fun m => r.sep v m ⟨i, o, e, e1⟩
      have g : ∀ u, H v = some u → H' v = some u := fun u eu => stay v u eu nm
      cases o with
      | lst l => obtain ⟨vs, e, c⟩ := e2; exact ⟨vs, g _ e, c.keep kt x.pre⟩
      | dct t k l => obtain ⟨vs, e, c⟩ := e2; exact ⟨vs, e.keep g, c.keep kt x.pre⟩
      | ins c k l => obtain ⟨A, dx, fs, e3, e4, e5, c⟩ := e2; exact ⟨A, dx, fs, e3, g _ e4, e5, c.keep kt x.pre⟩
  · obtain ⟨a, e1, e2⟩ := x.rep.objs g o e
    exact ⟨a, e1, e2.mono fun b t => tab_call t⟩
  · exact (x.rep.far a (.inr t)).2 (.inl m)
  · rcases m with m | m
    · exact (x.rep.far a (.inl t)).2 (.inl m)
    · exact (r.far a t).2 (.inr m)
/-- a frame is entered -/
theorem Rep.enter {G : List MO} {vs : List V} {ds : List D} {N : List Str} (r : Rep C F μ ⟨[], G⟩ [] H) (h : AtL C (Tab F μ ⟨[], G⟩ []) μ H vs ds) (l : vs.length ≤ N.length) :
    Rep C F μ ⟨ds.map .val ++ List.replicate (N.length - ds.length) .no, G⟩ (L2.start N vs) H ∧ ∀ a, ¬ OwnAt (ds.map .val ++ List.replicate (N.length - ds.length) .no) (L2.start N vs) a := by
  have get : ∀ {i : Nat} {sl : Slot}, (ds.map Slot.val ++ List.replicate (N.length - ds.length) Slot.no)[i]? = some sl → (∃ d, ds[i]? = some d ∧ sl = .val d) ∨ sl = .no := fun {i sl} e => by
    by_cases hi : i < ds.length
    · rw [List.getElem?_append_left (by simpa using hi), List.getElem?_map] at e
      obtain ⟨d, e1, e2⟩ := Option.map_eq_some_iff.mp e
      exact .inl ⟨d, e1, e2.symm⟩
    · rw [List.getElem?_append_right (by simpa using hi)] at e
      exact .inr (List.eq_of_mem_replicate (List.mem_of_getElem? e))
  have nown : ∀ a, ¬ OwnAt (ds.map .val ++ List.replicate (N.length - ds.length) .no) (L2.start N vs) a := fun a ⟨i, o, e, _⟩ => by
    rcases get e with ⟨d, _, z⟩ | z <;> cases z
  have te : ∀ a, Tab F μ ⟨ds.map .val ++ List.replicate (N.length - ds.length) .no, G⟩ (L2.start N vs) a → Tab F μ ⟨[], G⟩ [] a := fun a t => t.elim .inl fun t => t.elim (fun t => .inr (.inl t)) fun t => (nown a t).elim
  refine ⟨⟨?_, fun i sl e => ?_, fun i j oi oj a e => ?_, r.lenG, fun g o e => ?_, r.nd, fun a _ t => nown a t, fun a t => ⟨(r.far a t).1, fun m => m.elim (fun m => (r.far a t).2 (.inl m)) (nown a)⟩⟩, nown⟩
  · have := h.length
    unfold L2.start
    simp
    omega
  · rcases get e with ⟨d, e1, rfl⟩ | rfl
    · obtain ⟨v, ev, hv⟩ := h.at e1
      refine ⟨v, ?_, hv.mono te⟩
      unfold L2.start
      rw [List.getElem?_append_left (by simpa using lt_of_get ev), List.getElem?_map, ev]
      rfl
    · trivial
  · rcases get e with ⟨d, _, z⟩ | z <;> cases z
  · obtain ⟨a, e1, e2⟩ := r.objs g o e
    exact ⟨a, e1, e2.mono te⟩
end
/-- the wish of a def's body -/
abbrev WB (E : XK) : WX := fun cls d _ H => E cls d H
abbrev CXn (P : Program) (w : World) : CXT := L2N.CX P w
/-- the context of a def's body -/
abbrev XB (P : Program) (w : World) (K : PySem.W.Frag) (mg : Str → Option Value) (base : Heap) (N : List Str) (qual : Str) (scope : Scope) (f : Addr) (cdv : Value) (A : Around) (outer : List Env) (s : Shared) (H : Hp) (E : XK) : Cx :=
  cxOf (CXn P w) P w K mg base N qual scope f cdv A outer s H E
section
variable {P : Program} {w : World} {K : PySem.W.Frag} {mg : Str → Option Value} {base : Heap} {x qual : Str} {params : Arguments} {body : List Stmt} {scope : Scope} {dvs : List V} {kws : List (Str × V)} {f : Addr} {fd : FuncData}
theorem fnD {N ps : List Str} {k : Nat} {m : M Fl} (Fd : FunD K x qual params body scope dvs kws f fd) (S : FnScope N ps scope) (hl : ps.length ≤ N.length)
    (hb : ∀ (cdv : Value) (A : Around) (outer : List Env) (s : Shared) (H : Hp) (E : XK), Room k (XB P w K mg base N qual scope f cdv A outer s H E).A → L2N.Takes (XB P w K mg base N qual scope f cdv A outer s H E) (WB E) →
      PSs (XB P w K mg base N qual scope f cdv A outer s H E) body (tDS (RC0 K mg) (WB E) m)) : FnOk P w K mg base (CXn P w) (k + 1) f fd ps (spOf (RC0 K mg) ps.length (runFn N.length ps.length m)) := by
  refine Fd.ok S (fun vs H Q E h => h.1) (fun cdv A outer s H vs Q E hr h => ⟨_, hb cdv A outer s H E hr (L2N.takes_of rfl rfl rfl rfl), ?_⟩)
  obtain ⟨ev, F, μ, G, ds, r, ha, q⟩ := h
  have el := ha.length
  obtain ⟨r0, n0⟩ := r.enter ha (N := N) (by omega)
  refine ⟨F, μ, _, r0, ?_⟩
  have eN : N.length - ds.length = N.length - ps.length := by omega
  unfold runFn at q
  rw [if_pos (by omega), ← eN] at q
  unfold ResS
  cases em : m ⟨ds.map .val ++ List.replicate (N.length - ds.length) .no, G⟩ with
  | stuck => rw [em] at q; exact q.elim
  | exc e s' =>
    rw [em] at q
    intro cls dx μ' σ' H' y hx
    exact q cls dx μ' H' (y.leave n0) (hx.mono fun a t => tab_bare t)
  | ok fl s' =>
    rw [em] at q
    intro μ' σ' H' y
    cases fl with
    | nx => exact q .non μ' H' (y.leave n0) .non
    | rt d => exact fun v hv => q v μ' H' (y.leave n0) (hv.mono fun a t => tab_bare t)
    | bk => exact q.elim
    | ct => exact q.elim
end
theorem runFn_len {N n : Nat} {m : M Fl} (ds : List D) (G : List MO) (h : runFn N n m ds G ≠ .stuck) : ds.length = n := by
  unfold runFn at h
  split at h
  · assumption
  · exact absurd rfl h
/-- a def that may be called: its name, its level, what it does -/
def Def (P : Program) (w : World) (K : PySem.W.Frag) (mg : Str → Option Value) (base : Heap) (x : Str) (k n : Nat) (m : Fn) : Prop :=
  (∀ ds G, m ds G ≠ .stuck → ds.length = n) ∧ ∃ (f : Addr) (fd : FuncData) (ps : List Str), FnOk P w K mg base (CXn P w) k f fd ps (spOf (RC0 K mg) n m) ∧ mg x = some (.ref f) ∧ PySem.W.keepIn K (.ref f) = true ∧ Binds K fd ps []
section
variable {X : Cx} {W : WX} {x : Str} {e : Expr} {es : List Expr} {p pos : Pos} {ms : List (M D)} {k j n : Nat} {m : Fn}
theorem d_call (D : Def X.prog X.w X.K X.mg X.base x k n m) (hr : Room j X.A) (hj : k ≤ j) (tk : L2N.Takes X W) (hg : Gl X x) (ha : PA X (e :: es) (tDA (XC X) W (M.args ms)))
    (hdb : (x == ("__debug__" : Str)) = false := by decide) (he : starEach (e :: es) X.env = (false, eval e X.env) :: starEach es X.env := by rfl) (hpl : (backTo pos (starEach es X.env)).any (·.1) = false := by rfl) (hxc : XC X = RC0 X.K X.mg := by rfl) :
    PE X (.Call (.Name x p) (e :: es) [] pos) (tD (XC X) W (M.call m ms)) := by
  obtain ⟨len, f, fd, ps, F0, hm, hk, hb⟩ := D
  rw [hxc] at ha ⊢
  refine peImp (pe_callS F0 (hr.mono hj) hg hm hk hb (E := WE W) (fun σ => L2N.passAt tk σ) ha hdb he hpl) fun σ H Q ⟨F, μ, s, r, q⟩ => ?_
  refine ⟨F, μ, s, r, q.split.imp fun ds μ1 s1 H1 x1 h1 vs hv => ?_⟩
  have r1 := x1.rep
  refine ⟨?_, _, μ1, s1.G, ds, r1.toCall, hv.toCall, ?_⟩
  · rw [hv.length]
    refine len ds s1.G fun z => ?_
    unfold Res M.fn at h1
    rw [z] at h1
    exact h1
  · unfold Res M.fn at h1
    unfold ResF
    cases em : m ds s1.G with
    | stuck => rw [em] at h1; exact h1
    | exc e G' =>
      rw [em] at h1
      intro cls dx μ' H' y hx
      exact h1 cls dx μ' H' (y.ofCall r1) (hx.mono fun a t => tab_call t)
    | ok d G' =>
      rw [em] at h1
      intro v μ' H' y hx
      exact h1 μ' H' (y.ofCall r1) v (.of (hx.mono fun a t => tab_call t))
end
end Ms
/-! Ms11: own exceptions: made, held, asked, read. -/
namespace PySem
namespace MsX
open Builtin Builtin.ObjectAttr HandSPX
section
variable {M : Model} {A : Around} {E : Value → Shared → Prop} {h : Heap} {g : Array GenState} {d : Drawn} {t : Nat} {os : OsState}
variable {nm q : Str} {C N : Addr} {bs bm bmB : List Value} {hdct : Bool} {sn : List Str} {sub : List Value} {ab : Bool} {col : Option Bool} {dd : Option Addr} {k0 k1 k2 k3 k5 : Option Value} {B newId initId : String}
theorem check_new_kw (F : ExcBaseFacts B newId initId bmB) (hT : ∀ X : String, bm.contains (.type X) = bmB.contains (.type X)) {rest : List Value} {kw : List (Str × Value)} {Q : Unit → Shared → Prop}
    (hC : h.get? C = some (excClassObj nm q C N bs bm hdct sn sub ab col dd k0 k1 k2 k3 k5 newId)) (hq : Q () ⟨h, g, d, t, os⟩) : wpAny M A (checkBuiltinCall newId ⟨.ref C :: rest, kw⟩) Q E ⟨h, g, d, t, os⟩ := by
  have hcont : (Value.ref C :: bm).contains (.type B) = true := by rw [List.contains_cons, hT, F.hasB, Bool.or_true]
  have hstar := F.noStar
  simp only [checkBuiltinCall, F.newKind, F.newSplit, F.newRow]
  repeat (first | refine wpAny_loadPart_at hC ?_ | (refine wpAny_isSubtype_exc hC ?_; rw [hcont]) | refine wpAny_staticBase_exc hC ?_ | refine wpAny_madeBy_exc hC ?_ | simp only [bne_self_eq_false, Bool.false_eq_true, if_false] | wp_step)
  exact hq
end
section
variable {prog : Program} {w : World} {A : Around} {E : Value → Shared → Prop} {R : Result → Shared → Prop} {h : Heap} {g : Array GenState} {d : Drawn} {t : Nat} {os : OsState}
variable {nm q : Str} {C N : Addr} {bs bm bmB : List Value} {hdct : Bool} {sn : List Str} {sub : List Value} {ab : Bool} {col : Option Bool} {dd : Option Addr} {k0 k1 k2 k3 k5 : Option Value} {B newId initId : String}
theorem new_kw (F : ExcBaseFacts B newId initId bmB) (hT : ∀ X : String, bm.contains (.type X) = bmB.contains (.type X)) {rest : List Value} {kw : List (Str × Value)}
    (hC : h.get? C = some (excClassObj nm q C N bs bm hdct sn sub ab col dd k0 k1 k2 k3 k5 newId))
    (hq : R (.ok (.ret (.ref (h.objs.size + 1)))) ⟨(h.push { cls := .type "tuple", data := .seq rest.toArray }).push
      { cls := .ref C, data := .fields #[.ref h.objs.size, .none, .none, .none, .bool false, .none] }, g, d, t, os⟩) (hrest : rest.length ≤ sizeLine) :
    codeAny (model prog w) A (.builtin newId ⟨.ref C :: rest, kw⟩) R ⟨h, g, d, t, os⟩ := by
  have hends := F.ends
  have hcB : (Value.ref C :: bm).contains (.type B) = true := by rw [List.contains_cons, hT, F.hasB, Bool.or_true]
  have hcA : (Value.ref C :: bm).contains (.type "AttributeError") = false := by rw [List.contains_cons, hT, F.noAttr]; rfl
  have hcN : (Value.ref C :: bm).contains (.type "NameError") = false := by rw [List.contains_cons, hT, F.noName]; rfl
  refine codeAny_builtinAt F.entry ?_
  unfold Builtin.«BaseException.__new__»
  refine wpAt_bind ?_
  show wpAt _ _ _ (stack >>= _) _ _ _
  refine wpAt_bind (wpAt_stack fun p below => wpAt_of_wpAny ?_)
  wp_walk
  refine wpAt_of_wpAny ?_
  rw [F.owner]
  repeat (first | with_reducible refine wpAny_madeHere_exc F.canon hC ?_ | with_reducible refine wpAny_loadPart_at hC ?_ | (with_reducible refine wpAny_isSubtype_exc hC ?_; first | rw [hcB] | rw [hcA] | rw [hcN]) | wp_step)
  show R _ _
  rw [Heap.size_push]
  exact hq
theorem type_call_kw (F : ExcBaseFacts B newId initId bmB) (hT : ∀ X : String, bm.contains (.type X) = bmB.contains (.type X)) {rest : List Value} {kw : List (Str × Value)} {fI : Addr} {Q : Fin → Shared → Prop}
    (hC : h.get? C = some (excClassObj nm q C N bs bm hdct sn sub ab col dd k0 k1 k2 k3 k5 newId))
    (hi : W.Looks (model prog w) h (typeLookup (.ref C) "__init__") (some (.ref fI))) (hb : ∀ self, W.Looks (model prog w) h (bindSpecial (.ref fI) self) (.ref fI, [self])) (hrest : rest.length ≤ sizeLine)
    (hq : codeAny (model prog w) A (.call (.ref fI) ⟨.ref (h.objs.size + 1) :: rest, kw⟩)
      (fun r s' => match r with | .ok (.ret v) => v = .none ∧ Q (.done (.ret (.ref (h.objs.size + 1)))) s' | .ok _ => False | .error e => E e s')
      ⟨(h.push (W.kdv_tup rest)).push (excO C h.objs.size), g, d, t, os⟩) :
    wpAny (model prog w) A (Builtin.«type.__call__» ⟨.ref C :: rest, kw⟩) Q E ⟨h, g, d, t, os⟩ := by
  repeat (first | with_reducible refine wpAny_loadPart_at hC ?_ | with_reducible refine wpAny_madeBy_exc hC ?_ | wp_step)
  refine codeAny_call_builtin_code (Code.quiet_builtin _ F.quiet) (check_new_kw F hT hC ?_)
  refine new_kw F hT hC ?_ hrest
  show wpAny _ _ _ _ _ _
  have k : ∀ b o, h.get? b = some o → ((h.push (W.kdv_tup rest)).push (excO C h.objs.size)).get? b = some o := fun b o e => Heap.get?_push_of_some _ (Heap.get?_push_of_some _ e)
  have hC₁ := k _ _ hC
  have hget : ((h.push (W.kdv_tup rest)).push (excO C h.objs.size)).get? (h.objs.size + 1) = some (excO C h.objs.size) := by heap_get
  have hcC : (Value.ref C :: bm).contains (.ref C) = true := by simp
  have i1 := hi.keeps k
  have b1 := (hb (.ref (h.objs.size + 1))).keeps k
  unfold isInstance
  repeat (first | with_reducible refine wpAny_loadPart_at hget ?_ | (with_reducible refine wpAny_isSubtype_exc hC₁ ?_; rw [hcC]) | wp_step)
  show wpAny _ _ (typeLookup (.ref C) _) _ _ _
  refine i1.at ?_
  refine wpAny_holding (wpAny_bind (b1.at ?_))
  refine wpAny_bind (wpAny_call (codeAny_mono hq fun r s' z => ?_))
  rcases r with e | (v | _ | _ | _) <;> first | exact z | exact z.elim | skip
  obtain ⟨rfl, z⟩ := z
  first
    | exact wpAny_pure (wpAny_pure z)
    | (wp_walk; exact z)
theorem call_kw (F : ExcBaseFacts B newId initId bmB) (hT : ∀ X : String, bm.contains (.type X) = bmB.contains (.type X)) {rest : List Value} {kw : List (Str × Value)} {fI : Addr}
    (hC : h.get? C = some (excClassObj nm q C N bs bm hdct sn sub ab col dd k0 k1 k2 k3 k5 newId))
    (hi : W.Looks (model prog w) h (typeLookup (.ref C) "__init__") (some (.ref fI))) (hb : ∀ self, W.Looks (model prog w) h (bindSpecial (.ref fI) self) (.ref fI, [self])) (hrest : rest.length ≤ sizeLine)
    (hq : codeAny (model prog w) (A.under (.builtin "type.__call__" ⟨.ref C :: rest, kw⟩)) (.call (.ref fI) ⟨.ref (h.objs.size + 1) :: rest, kw⟩) (W.InitBack (h.objs.size + 1) R)
      ⟨(h.push (W.kdv_tup rest)).push (excO C h.objs.size), g, d, t, os⟩) :
    codeAny (model prog w) A (.call (.ref C) ⟨rest, kw⟩) R ⟨h, g, d, t, os⟩ := by
  have f1 := tc_lookup
  have f2 := tc_bind (.ref C)
  have hTy : (⟨h, g, d, t, os⟩ : Shared).TypeIs (.ref C) "type" := ⟨_, hC, rfl⟩
  refine codeAny_of_tree ?_
  show wpAny _ _ (callAny (.ref C) _) _ _ _
  repeat (any_goals (first | assumption | with_reducible refine wpAny_loadPart_at hC ?_ | wp_step))
  refine ⟨rfl, ?_⟩
  refine codeAny_call_builtin_at (Code.quiet_builtin _ (by decide +kernel)) entry_typeCall (wpAny_check_type_call_sub hC (type_call_kw F hT hC hi hb hrest ?_))
  refine codeAny_mono hq fun r s' z => ?_
  rcases r with e | (v | _ | _ | _) <;> exact z
end
end MsX
end PySem
namespace Ms
open PySem PySem.Spec PyProof.Rows L2
section
variable {X : Cx} {W : WX} {B x fl : Str} {BA C fI : Addr} {e : Expr} {es : List Expr} {kws : List Keyword} {t tk ta : TA} {p p1 p2 pos : Pos}
/-- B.__init__(self, ..), B an own exception class without own __init__ -/
theorem pe_oini {pl : Sem Bool} (hg : Gl X B) (hm : X.mg B = some (.ref BA)) (r : ClX.CRead X.K BA (.type "type")) (vV : PySem.W.findCls X.K (.ref BA) (.type "type") "__init__" = some (.val (.builtin "ValueError.__init__"))) (ha : PA X (e :: es) ta)
    (hdb : (B == ("__debug__" : Str)) = false := by decide)
    (hc : eval (.Call (.Attribute (.Name B p1) "__init__" p2) (e :: es) [] pos) X.env = (do
      let ov ← eval (.Name B p1) X.env
      standAt p2.atName
      let (f, first) ← holding [ov] (getMethod ov "__init__" pl)
      callWith pos f first (backTo pos (starEach (e :: es) X.env)) (backToKw pos (keywordEach [] X.env))) := by rfl)
    (he : starEach (e :: es) X.env = (false, eval e X.env) :: starEach es X.env := by rfl) (hpl : (backTo pos (starEach es X.env)).any (·.1) = false := by rfl) :
    PE X (.Call (.Attribute (.Name B p1) "__init__" p2) (e :: es) [] pos) (tVeI X.K ta) := by
  refine ⟨fun pins s σ H Q I h => ?_⟩
  refine PySem.W.methodCall_KW (ld_glob I hg hm ?_ hdb) hc
  refine PySem.W.method_cls I.kIn r.ga (PySem.W.cls_value I.kIn r.rd vV (by decide +kernel) ?_)
  show wpAny _ _ (callWith pos (Value.builtin "ValueError.__init__") [] (backTo pos (starEach (e :: es) X.env)) []) _ _ _
  refine PyProof.Rows.callWith_method1 (thn (ha.run pos pins _ σ H _ (I.tok _) h) fun us s1 ⟨vs, H1, I1, r1, a, C, ws, ev, hl, T, ea, q⟩ => ?_) he hpl
  subst ev
  cases r1 with
  | @cons _ u0 _ ur ra rw' =>
    obtain rfl : u0 = Value.ref a := ra
    have hlen : ur.length ≤ sizeLine := by
      rw [← Paired.length rw', sizeLine_eq]
      omega
    exact oinit_ok T I1 ea hlen fun s' J => ⟨.non, H1, J, rfl, q⟩
/-- what such an __init__ does: self.fl = v -/
def spIni (K : PySem.W.Frag) (fl : Str) : Sp := fun vs H Q _ => ∃ (a C : Addr) (v : V), vs = [.ref a, v] ∧ OexC K C ∧ PySem.W.findIn K (.ref C) fl = some none ∧ H a = some (exo a C none) ∧
  ∀ dx, H dx = none → dx ≠ a → Q .non (upd (upd H dx (exd dx [(fl, v)])) a (exo a C (some dx)))
theorem pa_ini {y msg : Str} {i j : Nat} {pp q : Pos} {k : Nat} (h0 : PE X (.Name y pp) (tVar i)) : PA X [.Name y pp, .Constant (.str msg) k q] (tCons (tVar i) (tCons (tC (.str msg)) tNil)) := pa_cons h0 (pa_cons pe_str pa_nil)
end
section
variable {P : Program} {w : World} {K : PySem.W.Frag} {mg : Str → Option Value} {base : Heap} {fI BA : Addr} {fd : FuncData} {B qual fl y msg : Str} {params : Arguments} {scope : Scope} {dvs : List V} {kws : List (Str × V)} {p1 p2 p3 p4 p5 p6 p7 p8 q1 q2 q3 : Pos} {kk : Nat}
theorem ini_ok {CX : CXT} (k : Nat) (Fd : FunD K "__init__" qual params [.Expr (.Call (.Attribute (.Name B p1) "__init__" p2) [.Name "self" p3, .Constant (.str msg) kk p4] [] p5) p6, .Assign [.Attribute (.Name "self" q1) fl q2] (.Name y q3) p7] scope dvs kws fI fd)
    (S : FnScope ["self", y] ["self", y] scope) (hs : Vis scope "self") (hy : Vis scope y) (hd1 : (y == ("__debug__" : Str)) = false) (hd2 : (y == ("__classdict__" : Str)) = false)
    (hB : ∀ (cdv : Value) (A : Around) (outer : List Env) (s : Shared) (H : Hp) (E : XK), PE (cxOf CX P w K mg base ["self", y] qual scope fI cdv A outer s H E) (.Call (.Attribute (.Name B p1) "__init__" p2) [.Name "self" p3, .Constant (.str msg) kk p4] [] p5) (tVeI K (tCons (tVar 0) (tCons (tC (.str msg)) tNil))))
    (hsw : ∀ (cdv : Value) (A : Around) (outer : List Env) (s : Shared) (H : Hp) (E : XK), swapsWith (.Name y q3) (some (.Attribute (.Name "self" q1) fl q2)) p7.line (cxOf CX P w K mg base ["self", y] qual scope fI cdv A outer s H E).env = pure false)
    (hsx : ∀ (cdv : Value) (A : Around) (outer : List Env) (s : Shared) (H : Hp) (E : XK), swapsWith (.Call (.Attribute (.Name B p1) "__init__" p2) [.Name "self" p3, .Constant (.str msg) kk p4] [] p5) none p6.line (cxOf CX P w K mg base ["self", y] qual scope fI cdv A outer s H E).env = pure false) :
    FnOk P w K mg base CX (k + 1) fI fd ["self", y] (spIni K fl) := by
  refine Fd.ok S (fun vs H Q E ⟨a, C, v, e, _⟩ => by rw [e]; rfl) fun cdv A outer s H vs Q E hr h => ?_
  have v1 : PE (cxOf CX P w K mg base ["self", y] qual scope fI cdv A outer s H E) (.Name "self" q1) (tVar 0) := pe_var rfl hs
  have v2 : PE (cxOf CX P w K mg base ["self", y] qual scope fI cdv A outer s H E) (.Name y q3) (tVar 1) := pe_var rfl hy hd1 hd2
  refine ⟨_, pss_cons (ps_expr (hB cdv A outer s H E) (hsx cdv A outer s H E)) (pss_cons (ps_ost v1 v2 (hsw cdv A outer s H E)) pss_nil), ?_⟩
  obtain ⟨a, C, v, rfl, T, hf, ea, q⟩ := h
  refine ⟨.ref a, rfl, ?_⟩
  refine ⟨a, C, [.str msg], rfl, by show 1 ≤ 1000; omega, T, ea, ?_⟩
  refine ⟨v, rfl, .ref a, rfl, a, C, rfl, T, hf, .inl ⟨ea, fun dx n ne => q dx n ne⟩⟩
end
section
variable {X : Cx} {CX : CXT} {k n : Nat} {C fI : Addr} {fd : FuncData} {ps ks : List Str} {sp : Sp} {x : Str} {p pos : Pos} {e : Expr} {es : List Expr} {kws : List Keyword} {t tk : TA} {g : List Value → List Value → List Value} {gV : List V → List V → List V}
theorem run_oex {pins : List (Addr × Obj)} {σ : L2.St} {H : Hp} {s : Shared} {us ws : List Value} {vs zs : List V} {R : Addr → Hp → Prop} {QQ : Value → Shared → Prop} (T : OexC X.K C) (iC : PySem.W.findIn X.K (.ref C) "__init__" = some (some (.ref fI)))
    (tI : PySem.W.typeIn X.K (.ref fI) = some (.type "function")) (F1 : FnOk X.prog X.w X.K X.mg X.base CX k fI fd ps sp) (hr : Room (k + 1) X.A) (hb : KBn X.K fd ps (n + 1) ks g gV) (hx : Passes CX X (fun _ _ _ => False)) (I : Inv X pins σ H s) (r : Vals vs us) (rz : Vals zs ws)
    (l1 : vs.length = n) (l2 : zs.length = ks.length) (hn : n ≤ 1000) (h : ∀ a, H a = none → sp (gV (.ref a :: vs) zs) (upd H a (exo a C none)) (fun v H2 => v = .non ∧ R a H2) (fun _ _ _ => False))
    (fin : ∀ (a : Addr) (s1 s2 : Shared) (H2 : Hp), s.heap.objs.size ≤ a → (∀ b o, s.heap.get? b = some o → s1.heap.get? b = some o) → Inv X pins σ (upd H a (exo a C none)) s1 → Un (frs X.stack) [] (upd H a (exo a C none)) H2 s1.heap s2.heap → HOk X.prog X.w H2 s2.heap → s2.os = s1.os → s1.os = s.os → AllBare s2.gens → R a H2 → QQ (.ref a) s2) :
    wpAny (model X.prog X.w) X.A (call (.ref C) us (ks.zip ws)) QQ X.xe s := by
  obtain ⟨nm, q, N, bs, bm, sn, sub, ab, col, dd, k0, k1, k2, k3, k5, hC, hbm⟩ := T.cls
  obtain ⟨hp, gg, dr, tk, os⟩ := s
  have hsz : hp.objs.size ≤ hp.objs.size + 1 := Nat.le_succ _
  have hn1 : H (hp.objs.size + 1) = none := I.hok.fresh hsz
  have hq := h (hp.objs.size + 1) hn1
  have kk : ∀ b o, hp.get? b = some o → ((hp.push (PySem.W.kdv_tup us)).push (PySem.HandSPX.excO C hp.objs.size)).get? b = some o := fun b o e => Heap.get?_push_of_some _ (Heap.get?_push_of_some _ e)
  have hget : ((hp.push (PySem.W.kdv_tup us)).push (PySem.HandSPX.excO C hp.objs.size)).get? (hp.objs.size + 1) = some (PySem.HandSPX.excO C hp.objs.size) := by heap_get
  have I2 : Inv X pins σ (upd H (hp.objs.size + 1) (exo (hp.objs.size + 1) C none)) ⟨(hp.push (PySem.W.kdv_tup us)).push (PySem.HandSPX.excO C hp.objs.size), gg, dr, tk, os⟩ :=
    I.laid (t' := tk) (a := hp.objs.size + 1) (o := exo (hp.objs.size + 1) C none) (h' := (hp.push (PySem.W.kdv_tup us)).push (PySem.HandSPX.excO C hp.objs.size)) kk hsz (exo_ok hget)
  have r1 : Vals (V.ref (hp.objs.size + 1) :: vs) (Value.ref (hp.objs.size + 1) :: us) := .cons rfl r
  have r2 := hb.rel r1 rz
  have n1 : (Value.ref (hp.objs.size + 1) :: us).length = n + 1 := by rw [List.length_cons, ← r.length, l1]
  have hus : us.length ≤ sizeLine := by
    rw [← r.length, l1, sizeLine_eq]
    omega
  refine wpAny_call (PySem.MsX.call_kw PySem.F.excBase_ValueError (fun Y => PySem.HandSPX.refsVE_contains Y bm hbm) (I.kIn _ _ hC) (PySem.W.looks_findIn I.kIn iC) (fun self => PySem.W.bind_fn I.kIn self tI) hus
    (codeAny_mono (F1.run _ X.stack _ _ ⟨Value.ref (hp.objs.size + 1) :: us, ks.zip ws⟩ (g (Value.ref (hp.objs.size + 1) :: us) ws) _ _ (fun _ _ _ => False) (hr.make C us (ks.zip ws)) (I2.env0.make C us (ks.zip ws))
      (hb.to _ (Value.ref (hp.objs.size + 1) :: us) ws I2.kIn n1 (rz.length.symm.trans l2)) r2 hq) fun r s' hq' => ?_))
  cases r with
  | error er => exact hx pins σ _ _ er s' I2 hq'
  | ok fl =>
    cases fl with
    | ret u =>
      obtain ⟨v, H2, os2, bare2, un2, hok2, rv, ev, q2⟩ := hq'
      subst ev
      exact ⟨rv, fin (hp.objs.size + 1) _ s' H2 hsz kk I2 un2 hok2 os2 rfl bare2 q2⟩
    | next => exact False.elim hq'
    | brk => exact False.elim hq'
    | cont => exact False.elim hq'
def tOexV (C : Addr) (n m : Nat) (sp : Sp) (gV : List V → List V → List V) (t tk : TA) : TE := fun σ H Q => t σ H fun vs H1 => tk σ H1 fun zs H2 => vs.length = n ∧ zs.length = m ∧ n ≤ 1000 ∧
  ∀ a, H2 a = none → sp (gV (.ref a :: vs) zs) (upd H2 a (exo a C none)) (fun v H3 => v = .non ∧ Q (.ref a) H3) (fun _ _ _ => False)
def tOexR (C : Addr) (n m : Nat) (sp : Sp) (gV : List V → List V → List V) (t tk : TA) : L2.St → Hp → XK → Prop := fun σ H Q => t σ H fun vs H1 => tk σ H1 fun zs H2 => vs.length = n ∧ zs.length = m ∧ n ≤ 1000 ∧
  ∀ a, H2 a = none → sp (gV (.ref a :: vs) zs) (upd H2 a (exo a C none)) (fun v H3 => v = .non ∧ ∃ (d : Addr) (fs : List (Str × V)), H3 a = some (exo a C (some d)) ∧ H3 d = some (exd d fs) ∧ H2 d = none ∧ Q (.ref C) (some d) (upd (L2.del H3 a) d (.xd fs))) (fun _ _ _ => False)
section
variable {pins : List (Addr × Obj)} {σ : L2.St} {H : Hp} {s : Shared} {us ws : List Value} {vs zs : List V}
theorem run_oexV {Q : VK} (T : OexC X.K C) (iC : PySem.W.findIn X.K (.ref C) "__init__" = some (some (.ref fI)))
    (tI : PySem.W.typeIn X.K (.ref fI) = some (.type "function")) (F1 : FnOk X.prog X.w X.K X.mg X.base CX k fI fd ps sp) (hr : Room (k + 1) X.A) (hb : KBn X.K fd ps (n + 1) ks g gV) (hx : Passes CX X (fun _ _ _ => False)) (I : Inv X pins σ H s) (r : Vals vs us) (rz : Vals zs ws)
    (l1 : vs.length = n) (l2 : zs.length = ks.length) (hn : n ≤ 1000) (h : ∀ a, H a = none → sp (gV (.ref a :: vs) zs) (upd H a (exo a C none)) (fun v H2 => v = .non ∧ Q (.ref a) H2) (fun _ _ _ => False)) :
    wpAny (model X.prog X.w) X.A (call (.ref C) us (ks.zip ws)) (EP X pins σ Q) X.xe s :=
  run_oex (R := fun a H2 => Q (.ref a) H2) T iC tI F1 hr hb hx I r rz l1 l2 hn h fun a s1 s2 H2 _ _ I2 un hok ho _ hb q => ⟨.ref a, H2, I2.call' (ch := []) ho un hok hb (fun b z => absurd z (by simp)), rfl, q⟩
theorem run_oexR {Q : XK} (T : OexC X.K C) (iC : PySem.W.findIn X.K (.ref C) "__init__" = some (some (.ref fI)))
    (tI : PySem.W.typeIn X.K (.ref fI) = some (.type "function")) (F1 : FnOk X.prog X.w X.K X.mg X.base CX k fI fd ps sp) (hr : Room (k + 1) X.A) (hb : KBn X.K fd ps (n + 1) ks g gV) (hx : Passes CX X (fun _ _ _ => False)) (I : Inv X pins σ H s) (r : Vals vs us) (rz : Vals zs ws)
    (l1 : vs.length = n) (l2 : zs.length = ks.length) (hn : n ≤ 1000) (h : ∀ a, H a = none → sp (gV (.ref a :: vs) zs) (upd H a (exo a C none)) (fun v H3 => v = .non ∧ ∃ (d : Addr) (fs : List (Str × V)), H3 a = some (exo a C (some d)) ∧ H3 d = some (exd d fs) ∧ H d = none ∧ Q (.ref C) (some d) (upd (L2.del H3 a) d (.xd fs))) (fun _ _ _ => False)) :
    wpAny (model X.prog X.w) X.A (call (.ref C) us (ks.zip ws)) (L2N.MkP X pins σ Q) X.xe s :=
  run_oex (R := fun a H3 => ∃ (d : Addr) (fs : List (Str × V)), H3 a = some (exo a C (some d)) ∧ H3 d = some (exd d fs) ∧ H d = none ∧ Q (.ref C) (some d) (upd (L2.del H3 a) d (.xd fs))) T iC tI F1 hr hb hx I r rz l1 l2 hn h fun a s1 s2 H2 ha kk I2 un hok ho ho1 hb ⟨d, fs, ea, ed, hd, q⟩ => by
    obtain ⟨h1, g1, d1, t1, o1⟩ := s
    obtain ⟨hp2, g2, d2, t2, o2⟩ := s1
    obtain ⟨h3, g3, d3, t3, o3⟩ := s2
    have e1 : o2 = o1 := ho1
    have e2 : o3 = o2 := ho
    subst e1 e2
    obtain ⟨t0, G, J, kG, ge, hoe, na⟩ := mk_end0 (d2 := d3) (t2 := t3) I ha kk un hok rfl hb ea ed hd
    exact ⟨a, _, _, ⟨G, g3, d3, t3, o3⟩, _, .ref C, some d, rfl, J, kG, ge, hoe, ⟨rfl, rfl, fun vs e => by cases e; rfl⟩, rfl, rfl, na, rfl, hb, raises_own T.exC T.tyC, q⟩
end
section
variable (T : OexC X.K C) (iC : PySem.W.findIn X.K (.ref C) "__init__" = some (some (.ref fI))) (tI : PySem.W.typeIn X.K (.ref fI) = some (.type "function")) (F1 : FnOk X.prog X.w X.K X.mg X.base CX k fI fd ps sp) (hr : Room (k + 1) X.A) (hb : KBn X.K fd ps (n + 1) ks g gV) (hx : Passes CX X (fun _ _ _ => False)) (hg : Gl X x) (hm : X.mg x = some (.ref C))
include T iC tI F1 hr hb hx hg hm
/-- C(e, .., k = v, ..) as a value -/
theorem pe_oexV (ha : PA X (e :: es) t) (hkw : PK X kws tk) (hall : (backToKw pos (keywordEach kws X.env)).all (·.1.isSome) = true := by rfl) (hks : (backToKw pos (keywordEach kws X.env)).filterMap (·.1) = ks := by rfl) (hdb : (x == ("__debug__" : Str)) = false := by decide)
    (he : starEach (e :: es) X.env = (false, eval e X.env) :: starEach es X.env := by rfl) (hpl : ((backTo pos (starEach (e :: es) X.env)).any (·.1) || (backToKw pos (keywordEach kws X.env)).any (·.1.isNone)) = false := by rfl) : PE X (.Call (.Name x p) (e :: es) kws pos) (tOexV C n ks.length sp gV t tk) := by
  refine ⟨fun pins s σ H Q I h => ?_⟩
  refine wpAny_Call_Name_kw (ld_glob I hg hm ?_ hdb)
  refine PySem.W.callWith_KW (h₀ := X.base) I.ok.mod.kin T.kC hall (thn (ha.run pos pins s σ H _ I h) fun us s1 ⟨vs, H1, I1, r, q⟩ => ?_) hpl he
  refine thn (hkw.run pos pins s1 σ H1 _ I1 q) fun ws s2 ⟨zs, H2, I2, rz, l1, l2, l3, q2⟩ => ⟨I2.kIn, ?_⟩
  rw [hks]
  exact run_oexV T iC tI F1 hr hb hx I2 r rz l1 l2 l3 q2
theorem pe_oexV0 (hkw : PK X kws tk) (hn : n = 0) (hall : (backToKw pos (keywordEach kws X.env)).all (·.1.isSome) = true := by rfl) (hks : (backToKw pos (keywordEach kws X.env)).filterMap (·.1) = ks := by rfl) (hdb : (x == ("__debug__" : Str)) = false := by decide)
    (hpl : ((backTo pos (starEach [] X.env)).any (·.1) || (backToKw pos (keywordEach kws X.env)).any (·.1.isNone)) = false := by rfl) : PE X (.Call (.Name x p) [] kws pos) (tOexV C n ks.length sp gV tNil tk) := by
  refine ⟨fun pins s σ H Q I h => ?_⟩
  refine wpAny_Call_Name_kw (ld_glob I hg hm ?_ hdb)
  refine PySem.W.callWith_KW0 (h₀ := X.base) I.ok.mod.kin T.kC hall ?_ hpl
  refine thn (hkw.run pos pins s σ H _ I h) fun ws s2 ⟨zs, H2, I2, rz, l1, l2, l3, q2⟩ => ⟨I2.kIn, ?_⟩
  rw [hks]
  exact run_oexV (us := []) (vs := []) T iC tI F1 hr hb hx I2 .nil rz hn.symm l2 l3 q2
/-- .. to be raised -/
theorem pmk_oexR (ha : PA X (e :: es) t) (hkw : PK X kws tk) (hall : (backToKw pos (keywordEach kws X.env)).all (·.1.isSome) = true := by rfl) (hks : (backToKw pos (keywordEach kws X.env)).filterMap (·.1) = ks := by rfl) (hdb : (x == ("__debug__" : Str)) = false := by decide)
    (he : starEach (e :: es) X.env = (false, eval e X.env) :: starEach es X.env := by rfl) (hpl : ((backTo pos (starEach (e :: es) X.env)).any (·.1) || (backToKw pos (keywordEach kws X.env)).any (·.1.isNone)) = false := by rfl) : L2N.PMk X (.Call (.Name x p) (e :: es) kws pos) (tOexR C n ks.length sp gV t tk) := by
  intro pins s σ H Q I h
  refine wpAny_Call_Name_kw (ld_glob I hg hm ?_ hdb)
  refine PySem.W.callWith_KW (h₀ := X.base) I.ok.mod.kin T.kC hall (thn (ha.run pos pins s σ H _ I h) fun us s1 ⟨vs, H1, I1, r, q⟩ => ?_) hpl he
  refine thn (hkw.run pos pins s1 σ H1 _ I1 q) fun ws s2 ⟨zs, H2, I2, rz, l1, l2, l3, q2⟩ => ⟨I2.kIn, ?_⟩
  rw [hks]
  exact run_oexR T iC tI F1 hr hb hx I2 r rz l1 l2 l3 q2
theorem pmk_oexR0 (hkw : PK X kws tk) (hn : n = 0) (hall : (backToKw pos (keywordEach kws X.env)).all (·.1.isSome) = true := by rfl) (hks : (backToKw pos (keywordEach kws X.env)).filterMap (·.1) = ks := by rfl) (hdb : (x == ("__debug__" : Str)) = false := by decide)
    (hpl : ((backTo pos (starEach [] X.env)).any (·.1) || (backToKw pos (keywordEach kws X.env)).any (·.1.isNone)) = false := by rfl) : L2N.PMk X (.Call (.Name x p) [] kws pos) (tOexR C n ks.length sp gV tNil tk) := by
  intro pins s σ H Q I h
  refine wpAny_Call_Name_kw (ld_glob I hg hm ?_ hdb)
  refine PySem.W.callWith_KW0 (h₀ := X.base) I.ok.mod.kin T.kC hall ?_ hpl
  refine thn (hkw.run pos pins s σ H _ I h) fun ws s2 ⟨zs, H2, I2, rz, l1, l2, l3, q2⟩ => ⟨I2.kIn, ?_⟩
  rw [hks]
  exact run_oexR (us := []) (vs := []) T iC tI F1 hr hb hx I2 .nil rz hn.symm l2 l3 q2
end
end
end Ms
/-! Ms12: keywords, exceptions at the data level. -/
namespace Ms
open PySem PySem.Spec PyProof.Rows L2
/-! ### how a call binds -/
section
variable {K : PySem.W.Frag} {x qual : Str} {params : Arguments} {body : List Stmt} {scope : Scope} {kws : List (Str × V)} {f : Addr} {fd : FuncData} {ps : List Str}
theorem kb_n (F : FunD K x qual params body scope [] kws f fd) (n : Nat) (ks : List Str) (g : {α : Type} → List α → List α → List α) (hrel : ∀ {vs zs : List V} {us ws : List Value}, Vals vs us → Vals zs ws → Vals (g vs zs) (g us ws))
    (h : ∀ (kV doc pm : Value) (an : Option Addr) (cdv ct : Value) (us ws : List Value), us.length = n → ws.length = ks.length → bindArgs (PySem.W.fnOf x qual params body scope .none kV doc pm an cdv ct) ⟨us, ks.zip ws⟩ = pure (ps.zip (g us ws))) :
    KBn K fd ps n ks g g := by
  obtain ⟨oc, od, dV, kV, doc, pm, an, cdv, ct, osl, rfl, lk, hcd, hD, hK⟩ := F.ex
  rcases hD with ⟨_, rfl⟩ | ⟨e, _⟩
  · exact ⟨fun s us ws X l1 l2 => .of_eq (h kV doc pm an cdv ct us ws l1 l2), hrel⟩
  · exact absurd rfl e
/-- .. the values of a def with defaults, all of them handed in -/
theorem kb_all {dvs : List V} (F : FunD K x qual params body scope dvs kws f fd) (n : Nat) (ks : List Str) (g : {α : Type} → List α → List α → List α) (hrel : ∀ {vs zs : List V} {us ws : List Value}, Vals vs us → Vals zs ws → Vals (g vs zs) (g us ws))
    (h : ∀ (T : Addr) (kV doc pm : Value) (an : Option Addr) (cdv ct : Value) (us its ws : List Value), us.length = n → its.length = dvs.length → ws.length = ks.length →
      ∃ k, bindArgs (PySem.W.fnOf x qual params body scope (.ref T) kV doc pm an cdv ct) ⟨us, ks.zip ws⟩ = seqItems? (.ref T) >>= k ∧ k (some its.toArray) = pure (ps.zip (g us ws))) (hd : dvs ≠ []) : KBn K fd ps n ks g g := by
  obtain ⟨its, q⟩ := F.kbindsD n ks (fun us _ ws => g us ws) hd (fun r1 _ r3 => hrel r1 r3) h
  exact q
end
/-! ### keywords' values -/
section
variable {X : Cx} {W : WX} {e : Expr} {es : List Expr} {kws : List Keyword} {nm : Option Str} {kpos p pos : Pos} {m : M D} {ms mks : List (M D)} {x : Str} {k j n N : Nat} {f : Fn}
theorem pkImp {t t' : TA} (h : PK X kws t) (i : ∀ σ H Q, t' σ H Q → t σ H Q) : PK X kws t' := ⟨fun pos pins s σ H Q I q => h.run pos pins s σ H Q I (i σ H Q q)⟩
theorem dk_nil : PK X [] (tDA (XC X) W (M.args [])) := pkImp pk_nil fun σ H Q ⟨F, μ, s, r, q⟩ => q.pure r [] .nil
theorem dk_cons (h : PE X e (tD (XC X) W m)) (hs : PK X kws (tDA (XC X) W (M.args ms))) : PK X (⟨nm, e, kpos⟩ :: kws) (tDA (XC X) W (M.args (m :: ms))) := by
  refine pkImp (pk_cons h hs) fun σ H Q ⟨F, μ, s, r, q⟩ => ?_
  refine ⟨F, μ, s, r, q.split.imp fun d μ1 s1 H1 x1 h1 v hv => ?_⟩
  obtain ⟨n, h1⟩ := res_out x1.rep h1
  refine ⟨F, μ1, s1, x1.rep, h1.split.imp fun ds μ2 s2 H2 x2 h2 vs hvs => ?_⟩
  exact h2.pure x2.rep (v :: vs) (.cons (x2.at (hv.at n)) hvs)
theorem AtL.of2 {C : RC} {T : Addr → Prop} {μ : List Addr} {H : Hp} {v w : V} {d e : D} (h : At C T μ H v d) (h2 : At C T μ H w e) : AtL C T μ H [v, w] [d, e] := .cons h (.cons h2 .nil)
/-- one shape for all lists -/
def SameShape (n m : Nat) (gV : List V → List V → List V) (gD : List D → List D → List D) : Prop := ∀ (C : RC) (T : Addr → Prop) (μ : List Addr) (H : Hp) (vs zs : List V) (ds es : List D), ds.length = n → es.length = m → AtL C T μ H vs ds → AtL C T μ H zs es → AtL C T μ H (gV vs zs) (gD ds es)
def M.callK (f : Fn) (n m : Nat) (gD : List D → List D → List D) (ms mks : List (M D)) : M D := do
  let ds ← M.args ms
  let es ← M.args mks
  if ds.length = n ∧ es.length = m then M.fn f (gD ds es) else M.stuck
theorem tCallK_ok {C : RC} {n m : Nat} {gV : List V → List V → List V} {gD : List D → List D → List D} (hs : SameShape n m gV gD) (len : ∀ ds G, f ds G ≠ .stuck → ds.length = N) (σ : L2.St) (H : Hp) (Q : VK) (h : tD C W (M.callK f n m gD ms mks) σ H Q) :
    tCallN n m (spOf C N f) gV (WE W σ) (tDA C W (M.args ms)) (tDA C W (M.args mks)) σ H Q := by
  obtain ⟨F, μ, s, r, q⟩ := h
  refine ⟨F, μ, s, r, q.split.imp fun ds μ1 s1 H1 x1 h1 vs hv => ⟨F, μ1, s1, x1.rep, h1.split.imp fun es μ2 s2 H2 x2 h2 zs hz => ?_⟩⟩
  have hv := x2.atL hv
  by_cases hl : ds.length = n ∧ es.length = m
  · rw [if_pos hl] at h2
    have r1 := x2.rep
    have ha := hs _ _ _ _ _ _ _ _ hl.1 hl.2 hv hz
    refine ⟨hv.length.trans hl.1, hz.length.trans hl.2, ?_, _, μ2, s2.G, gD ds es, r1.toCall, ha.toCall, ?_⟩
    · rw [ha.length]
      refine len _ s2.G fun z => ?_
      unfold Res M.fn at h2
      rw [z] at h2
      exact h2
    · unfold Res M.fn at h2
      unfold ResF
      cases em : f (gD ds es) s2.G with
      | stuck => rw [em] at h2; exact h2
      | exc e G' =>
        rw [em] at h2
        intro cls dx μ' H' y hx
        exact h2 cls dx μ' H' (y.ofCall r1) (hx.mono fun a t => tab_call t)
      | ok d G' =>
        rw [em] at h2
        intro v μ' H' y hx
        exact h2 μ' H' (y.ofCall r1) v (.of (hx.mono fun a t => tab_call t))
  · rw [if_neg hl] at h2
    exact (res_stuck h2).elim
end
section
variable {X : Cx} {CX : CXT} {W : WX} {k n : Nat} {f : Addr} {fd : FuncData} {ps ks : List Str} {sp : Sp} {E : L2.St → XK} {x : Str} {p pos : Pos} {e : Expr} {es : List Expr} {kws : List Keyword} {t tk : TA} {g : List Value → List Value → List Value} {gV : List V → List V → List V}
theorem run_fnNS {pins : List (Addr × Obj)} {σ : L2.St} {H : Hp} {s : Shared} {Q : VK} {us ws : List Value} {vs zs : List V} (F : FnOk X.prog X.w X.K X.mg X.base CX k f fd ps sp) (hr : Room k X.A) (hb : KBn X.K fd ps n ks g gV) (hx : PassesAt CX X σ (E σ))
    (I : Inv X pins σ H s) (r : Vals vs us) (rz : Vals zs ws) (l1 : vs.length = n) (l2 : zs.length = ks.length) (h : sp (gV vs zs) H Q (E σ)) : wpAny (model X.prog X.w) X.A (call (.ref f) us (ks.zip ws)) (EP X pins σ Q) X.xe s := by
  have r2 := hb.rel r rz
  refine wpAny_call (codeAny_mono (F.run X.A X.stack s H ⟨us, ks.zip ws⟩ (g us ws) (gV vs zs) Q (E σ) hr I.env0 (hb.to s us ws I.kIn (r.length.symm.trans l1) (rz.length.symm.trans l2)) r2 h) fun r s' hq => ?_)
  cases r with
  | error e => exact hx pins H s e s' I hq
  | ok fl =>
    cases fl with
    | ret u => exact I.after hq
    | next => exact False.elim hq
    | brk => exact False.elim hq
    | cont => exact False.elim hq
def tCallNS (n m : Nat) (sp : Sp) (gV : List V → List V → List V) (E : L2.St → XK) (t tk : TA) : TE := fun σ H Q => tCallN n m sp gV (E σ) t tk σ H Q
variable (F : FnOk X.prog X.w X.K X.mg X.base CX k f fd ps sp) (hr : Room k X.A) (hg : Gl X x) (hm : X.mg x = some (.ref f)) (hk : PySem.W.keepIn X.K (.ref f) = true) (hb : KBn X.K fd ps n ks g gV) (hx : ∀ σ, PassesAt CX X σ (E σ))
include F hr hg hm hk hb hx
theorem pe_callNS (ha : PA X (e :: es) t) (hkw : PK X kws tk) (hall : (backToKw pos (keywordEach kws X.env)).all (·.1.isSome) = true := by rfl) (hks : (backToKw pos (keywordEach kws X.env)).filterMap (·.1) = ks := by rfl)
    (hdb : (x == ("__debug__" : Str)) = false := by decide) (he : starEach (e :: es) X.env = (false, eval e X.env) :: starEach es X.env := by rfl)
    (hpl : ((backTo pos (starEach (e :: es) X.env)).any (·.1) || (backToKw pos (keywordEach kws X.env)).any (·.1.isNone)) = false := by rfl) :
    PE X (.Call (.Name x p) (e :: es) kws pos) (tCallNS n ks.length sp gV E t tk) := by
  refine ⟨fun pins s σ H Q I h => ?_⟩
  refine wpAny_Call_Name_kw (ld_glob I hg hm ?_ hdb)
  refine PySem.W.callWith_KW (h₀ := X.base) I.ok.mod.kin hk hall (thn (ha.run pos pins s σ H _ I h) fun us s1 ⟨vs, H1, I1, r, q⟩ => ?_) hpl he
  refine thn (hkw.run pos pins s1 σ H1 _ I1 q) fun ws s2 ⟨zs, H2, I2, rz, l1, l2, q2⟩ => ⟨I2.kIn, ?_⟩
  rw [hks]
  exact run_fnNS F hr hb (hx σ) I2 r rz l1 l2 q2
theorem pe_callNS0 (hkw : PK X kws tk) (hn : n = 0) (hall : (backToKw pos (keywordEach kws X.env)).all (·.1.isSome) = true := by rfl) (hks : (backToKw pos (keywordEach kws X.env)).filterMap (·.1) = ks := by rfl) (hdb : (x == ("__debug__" : Str)) = false := by decide)
    (hpl : ((backTo pos (starEach [] X.env)).any (·.1) || (backToKw pos (keywordEach kws X.env)).any (·.1.isNone)) = false := by rfl) :
    PE X (.Call (.Name x p) [] kws pos) (tCallNS n ks.length sp gV E tNil tk) := by
  refine ⟨fun pins s σ H Q I h => ?_⟩
  refine wpAny_Call_Name_kw (ld_glob I hg hm ?_ hdb)
  refine PySem.W.callWith_KW0 (h₀ := X.base) I.ok.mod.kin hk hall ?_ hpl
  refine thn (hkw.run pos pins s σ H _ I h) fun ws s2 ⟨zs, H2, I2, rz, l1, l2, q2⟩ => ⟨I2.kIn, ?_⟩
  rw [hks]
  exact run_fnNS (us := []) (vs := []) F hr hb (hx σ) I2 .nil rz hn.symm l2 q2
end
/-- a def that may be called so: its name, its level, the shape of the call, what it does -/
structure DefK (P : Program) (w : World) (K : PySem.W.Frag) (mg : Str → Option Value) (base : Heap) (x : Str) (k N n : Nat) (ks : List Str) (gD : List D → List D → List D) (m : Fn) : Prop where
  len : ∀ ds G, m ds G ≠ .stuck → ds.length = N
  ex : ∃ (f : Addr) (fd : FuncData) (ps : List Str) (g : List Value → List Value → List Value) (gV : List V → List V → List V), FnOk P w K mg base (CXn P w) k f fd ps (spOf (RC0 K mg) N m) ∧ mg x = some (.ref f) ∧ PySem.W.keepIn K (.ref f) = true ∧ KBn K fd ps n ks g gV ∧ SameShape n ks.length gV gD
section
variable {X : Cx} {W : WX} {e : Expr} {es : List Expr} {kws : List Keyword} {p pos : Pos} {ms mks : List (M D)} {x : Str} {k j n N : Nat} {m : Fn} {ks : List Str} {gD : List D → List D → List D}
theorem d_callK (D : DefK X.prog X.w X.K X.mg X.base x k N n ks gD m) (hr : Room j X.A) (hj : k ≤ j) (tk : L2N.Takes X W) (hg : Gl X x) (ha : PA X (e :: es) (tDA (XC X) W (M.args ms))) (hkw : PK X kws (tDA (XC X) W (M.args mks)))
    (hall : (backToKw pos (keywordEach kws X.env)).all (·.1.isSome) = true := by rfl) (hks : (backToKw pos (keywordEach kws X.env)).filterMap (·.1) = ks := by rfl) (hdb : (x == ("__debug__" : Str)) = false := by decide)
    (he : starEach (e :: es) X.env = (false, eval e X.env) :: starEach es X.env := by rfl) (hpl : ((backTo pos (starEach (e :: es) X.env)).any (·.1) || (backToKw pos (keywordEach kws X.env)).any (·.1.isNone)) = false := by rfl) (hxc : XC X = RC0 X.K X.mg := by rfl) :
    PE X (.Call (.Name x p) (e :: es) kws pos) (tD (XC X) W (M.callK m n ks.length gD ms mks)) := by
  obtain ⟨f, fd, ps, g, gV, F0, hm, hk, hb, hs⟩ := D.ex
  rw [hxc] at ha hkw ⊢
  exact peImp (pe_callNS F0 (hr.mono hj) hg hm hk hb (E := WE W) (fun σ => L2N.passAt tk σ) ha hkw hall hks hdb he hpl) (tCallK_ok hs D.len)
theorem d_callK0 (D : DefK X.prog X.w X.K X.mg X.base x k N n ks gD m) (hr : Room j X.A) (hj : k ≤ j) (tk : L2N.Takes X W) (hg : Gl X x) (hkw : PK X kws (tDA (XC X) W (M.args mks))) (hn : n = 0)
    (hall : (backToKw pos (keywordEach kws X.env)).all (·.1.isSome) = true := by rfl) (hks : (backToKw pos (keywordEach kws X.env)).filterMap (·.1) = ks := by rfl) (hdb : (x == ("__debug__" : Str)) = false := by decide)
    (hpl : ((backTo pos (starEach [] X.env)).any (·.1) || (backToKw pos (keywordEach kws X.env)).any (·.1.isNone)) = false := by rfl) (hxc : XC X = RC0 X.K X.mg := by rfl) :
    PE X (.Call (.Name x p) [] kws pos) (tD (XC X) W (M.callK m n ks.length gD [] mks)) := by
  obtain ⟨f, fd, ps, g, gV, F0, hm, hk, hb, hs⟩ := D.ex
  rw [hxc] at hkw ⊢
  refine peImp (pe_callNS0 F0 (hr.mono hj) hg hm hk hb (E := WE W) (fun σ => L2N.passAt tk σ) hkw hn hall hks hdb hpl) fun σ H Q h => ?_
  have q := tCallK_ok (W := W) hs D.len σ H Q h
  obtain ⟨F, μ, s, r, q⟩ := q
  exact q.pure r [] .nil
end
end Ms
/-! Ms13: exceptions at the data level. -/
namespace Ms
open PySem PySem.Spec PyProof.Rows L2
/-- an own exception class without own __init__ -/
structure X0 (K : PySem.W.Frag) (mg : Str → Option Value) (c : Str) (A : Addr) : Prop where
  gl : mg c = some (.ref A)
  ex : PySem.W.excIn K A [.type "ValueError", .type "Exception", .type "BaseException", .type "object"] "ValueError.__new__" = true
  kp : PySem.W.keepIn K (.ref A) = true
  sub : PySem.W.subIn K (.ref A) (.type "BaseException") = some true
  ty : PySem.W.typeIn K (.ref A) = some (.type "type")
/-- one with an own __init__ of one field, and how it is called -/
structure MkX (P : Program) (w : World) (K : PySem.W.Frag) (mg : Str → Option Value) (base : Heap) (c fl : Str) (k n : Nat) (ks : List Str) (pickD : List D → List D → D) : Prop where
  ne : fl ≠ Str.empty
  ex : ∃ (A fI : Addr) (fd : FuncData) (ps : List Str) (g : List Value → List Value → List Value) (gV : List V → List V → List V) (pickV : List V → List V → V), mg c = some (.ref A) ∧ OexC K A ∧ PySem.W.findIn K (.ref A) "__init__" = some (some (.ref fI)) ∧
    PySem.W.typeIn K (.ref fI) = some (.type "function") ∧ PySem.W.findIn K (.ref A) fl = some none ∧ FnOk P w K mg base (CXn P w) k fI fd ps (spIni K fl) ∧ KBn K fd ps (n + 1) ks g gV ∧ (∀ a vs zs, vs.length = n → zs.length = ks.length → gV (.ref a :: vs) zs = [.ref a, pickV vs zs]) ∧
    ∀ (C : RC) (T : Addr → Prop) (μ : List Addr) (H : Hp) (vs zs : List V) (ds es : List D), ds.length = n → es.length = ks.length → AtL C T μ H vs ds → AtL C T μ H zs es → At C T μ H (pickV vs zs) (pickD ds es)
def M.exc0 (c : Str) (m : M D) : M D := do
  let _ ← m
  pure (.exc c Str.empty .non)
def M.mkX (c fl : Str) (n m : Nat) (pick : List D → List D → D) (ms mks : List (M D)) : M D := do
  let ds ← M.args ms
  let es ← M.args mks
  if ds.length = n ∧ es.length = m then pure (.exc c fl (pick ds es)) else M.stuck
def M.throw (d : D) : M Fl := fun s => .exc d s
def M.raise (m : M D) : M Fl := do M.throw (← m)
section
variable {X : Cx} {W : WX} {c fl msg : Str} {A : Addr} {e : Expr} {es : List Expr} {kws : List Keyword} {p p2 pos pos' : Pos} {m : M D} {ms mks : List (M D)} {k n j i : Nat} {ks : List Str} {pick : List D → List D → D}
theorem d_exc0 (h : X0 X.K X.mg c A) (hg : Gl X c) (he : PE X e (tD (XC X) W m)) (hs : starEach [e] X.env = (false, eval e X.env) :: starEach [] X.env := by rfl) (hdb : (c == ("__debug__" : Str)) = false := by decide) :
    PE X (.Call (.Name c p) [e] [] pos) (tD (XC X) W (M.exc0 c m)) :=
  peImp (pe_exc1 PySem.F.excBase_ValueError h.ex h.gl h.kp hg he hs hdb) fun σ H Q ⟨F, μ, s, r, q⟩ => ⟨F, μ, s, r, q.split.imp fun d μ1 s1 H1 x1 h1 v hv a ha =>
    h1 μ1 _ (x1.rep.ext1 ha) (.ref a) (.of (.exc0 h.gl ⟨x1.rep.free ha, upd_same⟩))⟩
theorem ds_raise0 (hc : X.calm = true) (tk : L2N.Takes X W) (h : X0 X.K X.mg c A) (hg : Gl X c) (hdb : (c == ("__debug__" : Str)) = false := by decide) :
    PS X (.Raise (some (.Call (.Name c p) [.Constant (.str msg) i p2] [] pos)) none pos') (tDS (XC X) W (M.raise (M.exc0 c (M.lit (.str msg))))) :=
  psImp (L2N.ps_raise hc tk (L2N.pmk_own PySem.F.excBase_ValueError h.ex h.gl h.kp (raises_own h.sub h.ty) hg hdb)) fun E σ H ⟨F, μ, s, r, q⟩ => by
    have q : ∀ cls dx μ' σ' H', Ext (XC X) F μ s σ H μ' s σ' H' → XAt (XC X) (Tab F μ' s σ') μ' H' cls dx (.exc c Str.empty .non) → W cls dx σ' H' := q
    exact q _ _ _ _ _ (.refl r) ⟨A, h.gl, rfl, .inl ⟨rfl, rfl, rfl⟩⟩
theorem excHeap {H : Hp} {a dx A : Addr} {fl : Str} {v : V} (ha : H a = none) (hd : H dx = none) (ne : dx ≠ a) :
    (∀ b o, H b = some o → (upd (upd (upd H a (exo a A none)) dx (exd dx [(fl, v)])) a (exo a A (some dx))) b = some o) ∧ upd (L2.del (upd (upd (upd H a (exo a A none)) dx (exd dx [(fl, v)])) a (exo a A (some dx))) a) dx (.xd [(fl, v)]) = upd H dx (.xd [(fl, v)]) := by
  refine ⟨fun b o e => ?_, ?_⟩
  · have b1 := ne_of_none e ha
    have b2 := ne_of_none e hd
    rw [upd_ne b1, upd_ne b2, upd_ne b1]
    exact e
  · funext b
    by_cases b1 : b = dx
    · rw [b1, upd_same, upd_same]
    · rw [upd_ne b1, upd_ne b1]
      by_cases b2 : b = a
      · rw [b2, L2.del_same, ha]
      · rw [L2.del_ne b2, upd_ne b2, upd_ne b1, upd_ne b2]
theorem lookup_one (f : Str) (v : V) : List.lookup f [(f, v)] = some v := by simp [List.lookup]
theorem tD_mkX {A : Addr} {gV : List V → List V → List V} {pickV : List V → List V → V} {nk : Nat} (ne : fl ≠ Str.empty) (gl : X.mg c = some (.ref A)) (ox : OexC X.K A) (no : PySem.W.findIn X.K (.ref A) fl = some none) (hn : n ≤ 1000) (hp : ∀ a vs zs, vs.length = n → zs.length = nk → gV (.ref a :: vs) zs = [.ref a, pickV vs zs])
    (hs : ∀ (C : RC) (T : Addr → Prop) (μ : List Addr) (H : Hp) (vs zs : List V) (ds es : List D), ds.length = n → es.length = nk → AtL C T μ H vs ds → AtL C T μ H zs es → At C T μ H (pickV vs zs) (pick ds es)) (σ : L2.St) (H : Hp) (Q : VK)
    (h : tD (XC X) W (M.mkX c fl n nk pick ms mks) σ H Q) : tOexV A n nk (spIni X.K fl) gV (tDA (XC X) W (M.args ms)) (tDA (XC X) W (M.args mks)) σ H Q := by
  obtain ⟨F, μ, s, r, q⟩ := h
  refine ⟨F, μ, s, r, q.split.imp fun ds μ1 s1 H1 x1 h1 vs hv => ⟨F, μ1, s1, x1.rep, h1.split.imp fun es μ2 s2 H2 x2 h2 zs hz => ?_⟩⟩
  have hv := x2.atL hv
  by_cases hl : ds.length = n ∧ es.length = nk
  · rw [if_pos hl] at h2
    have lv := hv.length.trans hl.1
    have lz := hz.length.trans hl.2
    refine ⟨lv, lz, hn, fun a ha => ⟨a, A, pickV vs zs, hp a vs zs lv lz, ox, no, upd_same, fun dx hdx ne2 => ⟨rfl, ?_⟩⟩⟩
    rw [upd_ne ne2] at hdx
    obtain ⟨k1, _⟩ := excHeap (A := A) (fl := fl) (v := pickV vs zs) ha hdx ne2
    have x3 := x2.rep.ext k1
    refine h2 μ2 _ x3 (.ref a) (.of (.exc1 (dx := dx) (fs := [(fl, pickV vs zs)]) gl ⟨x2.rep.free ha, upd_same⟩ ⟨x2.rep.free hdx, ?_⟩ ne (lookup_one _ _) (x3.at (hs _ _ _ _ _ _ _ _ hl.1 hl.2 hv hz))))
    rw [upd_ne ne2, upd_same]
  · rw [if_neg hl] at h2
    exact (res_stuck h2).elim
theorem tDS_mkX {A : Addr} {gV : List V → List V → List V} {pickV : List V → List V → V} {nk : Nat} (ne : fl ≠ Str.empty) (gl : X.mg c = some (.ref A)) (ox : OexC X.K A) (no : PySem.W.findIn X.K (.ref A) fl = some none) (hn : n ≤ 1000) (hp : ∀ a vs zs, vs.length = n → zs.length = nk → gV (.ref a :: vs) zs = [.ref a, pickV vs zs])
    (hs : ∀ (C : RC) (T : Addr → Prop) (μ : List Addr) (H : Hp) (vs zs : List V) (ds es : List D), ds.length = n → es.length = nk → AtL C T μ H vs ds → AtL C T μ H zs es → At C T μ H (pickV vs zs) (pick ds es)) (E : Ends) (σ : L2.St) (H : Hp)
    (h : tDS (XC X) W (M.raise (M.mkX c fl n nk pick ms mks)) E σ H) : tOexR A n nk (spIni X.K fl) gV (tDA (XC X) W (M.args ms)) (tDA (XC X) W (M.args mks)) σ H fun cls d H' => W cls d σ H' := by
  obtain ⟨F, μ, s, r, q⟩ := h
  refine ⟨F, μ, s, r, q.splitE.split.imp fun ds μ1 s1 H1 x1 h1 vs hv => ⟨F, μ1, s1, x1.rep, h1.split.imp fun es μ2 s2 H2 x2 h2 zs hz => ?_⟩⟩
  have hv := x2.atL hv
  by_cases hl : ds.length = n ∧ es.length = nk
  · rw [if_pos hl] at h2
    have h3 := h2.pure x2.rep
    have h3 : ∀ cls dx μ' σ' H', Ext (XC X) F μ2 s2 σ H2 μ' s2 σ' H' → XAt (XC X) (Tab F μ' s2 σ') μ' H' cls dx (.exc c fl (pick ds es)) → W cls dx σ' H' := h3
    have lv := hv.length.trans hl.1
    have lz := hz.length.trans hl.2
    refine ⟨lv, lz, hn, fun a ha => ⟨a, A, pickV vs zs, hp a vs zs lv lz, ox, no, upd_same, fun dx hdx ne2 => ⟨rfl, dx, [(fl, pickV vs zs)], upd_same, ?_, ?_, ?_⟩⟩⟩
    · rw [upd_ne ne2, upd_same]
    · rw [upd_ne ne2] at hdx
      exact hdx
    · rw [upd_ne ne2] at hdx
      obtain ⟨_, k2⟩ := excHeap (A := A) (fl := fl) (v := pickV vs zs) ha hdx ne2
      rw [k2]
      have x3 := x2.rep.ext1 (o := HO.xd [(fl, pickV vs zs)]) hdx
      exact h3 _ _ _ _ _ x3 ⟨A, gl, rfl, .inr ⟨ne, dx, _, _, rfl, upd_same, x2.rep.free hdx, lookup_one _ _, x3.at (hs _ _ _ _ _ _ _ _ hl.1 hl.2 hv hz)⟩⟩
  · rw [if_neg hl] at h2
    exact (res_stuck h2).elim
theorem passF (tk : L2N.Takes X W) : Passes (L2N.CX X.prog X.w) X (fun _ _ _ => False) := L2N.passes_call tk fun _ _ _ _ h => h.elim
section
variable (D : MkX X.prog X.w X.K X.mg X.base c fl k n ks pick) (hr : Room j X.A) (hj : k + 1 ≤ j) (tk : L2N.Takes X W) (hg : Gl X c)
include D hr hj tk hg
theorem d_mkX (ha : PA X (e :: es) (tDA (XC X) W (M.args ms))) (hkw : PK X kws (tDA (XC X) W (M.args mks))) (hn : n ≤ 1000 := by decide) (hall : (backToKw pos (keywordEach kws X.env)).all (·.1.isSome) = true := by rfl) (hks : (backToKw pos (keywordEach kws X.env)).filterMap (·.1) = ks := by rfl) (hdb : (c == ("__debug__" : Str)) = false := by decide)
    (he : starEach (e :: es) X.env = (false, eval e X.env) :: starEach es X.env := by rfl) (hpl : ((backTo pos (starEach (e :: es) X.env)).any (·.1) || (backToKw pos (keywordEach kws X.env)).any (·.1.isNone)) = false := by rfl) :
    PE X (.Call (.Name c p) (e :: es) kws pos) (tD (XC X) W (M.mkX c fl n ks.length pick ms mks)) := by
  obtain ⟨A, fI, fd, ps, g, gV, pickV, gl, ox, ini, tI, no, F0, hb, hp, hs⟩ := D.ex
  exact peImp (pe_oexV ox ini tI F0 (hr.mono hj) hb (passF tk) hg gl ha hkw hall hks hdb he hpl) (tD_mkX D.ne gl ox no hn hp hs)
theorem d_mkX0 (hkw : PK X kws (tDA (XC X) W (M.args mks))) (hn : n = 0) (hall : (backToKw pos (keywordEach kws X.env)).all (·.1.isSome) = true := by rfl) (hks : (backToKw pos (keywordEach kws X.env)).filterMap (·.1) = ks := by rfl) (hdb : (c == ("__debug__" : Str)) = false := by decide)
    (hpl : ((backTo pos (starEach [] X.env)).any (·.1) || (backToKw pos (keywordEach kws X.env)).any (·.1.isNone)) = false := by rfl) :
    PE X (.Call (.Name c p) [] kws pos) (tD (XC X) W (M.mkX c fl n ks.length pick [] mks)) := by
  obtain ⟨A, fI, fd, ps, g, gV, pickV, gl, ox, ini, tI, no, F0, hb, hp, hs⟩ := D.ex
  refine peImp (pe_oexV0 ox ini tI F0 (hr.mono hj) hb (passF tk) hg gl hkw hn hall hks hdb hpl) fun σ H Q h => ?_
  obtain ⟨F, μ, s, r, q⟩ := tD_mkX (W := W) D.ne gl ox no (by omega) hp hs σ H Q h
  exact q.pure r [] .nil
theorem ds_raiseX (hc : X.calm = true) (ha : PA X (e :: es) (tDA (XC X) W (M.args ms))) (hkw : PK X kws (tDA (XC X) W (M.args mks))) (hn : n ≤ 1000 := by decide) (hall : (backToKw pos (keywordEach kws X.env)).all (·.1.isSome) = true := by rfl) (hks : (backToKw pos (keywordEach kws X.env)).filterMap (·.1) = ks := by rfl) (hdb : (c == ("__debug__" : Str)) = false := by decide)
    (he : starEach (e :: es) X.env = (false, eval e X.env) :: starEach es X.env := by rfl) (hpl : ((backTo pos (starEach (e :: es) X.env)).any (·.1) || (backToKw pos (keywordEach kws X.env)).any (·.1.isNone)) = false := by rfl) :
    PS X (.Raise (some (.Call (.Name c p) (e :: es) kws pos)) none pos') (tDS (XC X) W (M.raise (M.mkX c fl n ks.length pick ms mks))) := by
  obtain ⟨A, fI, fd, ps, g, gV, pickV, gl, ox, ini, tI, no, F0, hb, hp, hs⟩ := D.ex
  exact psImp (L2N.ps_raise hc tk (pmk_oexR ox ini tI F0 (hr.mono hj) hb (passF tk) hg gl ha hkw hall hks hdb he hpl)) (tDS_mkX D.ne gl ox no hn hp hs)
theorem ds_raiseX0 (hc : X.calm = true) (hkw : PK X kws (tDA (XC X) W (M.args mks))) (hn : n = 0) (hall : (backToKw pos (keywordEach kws X.env)).all (·.1.isSome) = true := by rfl) (hks : (backToKw pos (keywordEach kws X.env)).filterMap (·.1) = ks := by rfl) (hdb : (c == ("__debug__" : Str)) = false := by decide)
    (hpl : ((backTo pos (starEach [] X.env)).any (·.1) || (backToKw pos (keywordEach kws X.env)).any (·.1.isNone)) = false := by rfl) :
    PS X (.Raise (some (.Call (.Name c p) [] kws pos)) none pos') (tDS (XC X) W (M.raise (M.mkX c fl n ks.length pick [] mks))) := by
  obtain ⟨A, fI, fd, ps, g, gV, pickV, gl, ox, ini, tI, no, F0, hb, hp, hs⟩ := D.ex
  refine psImp (L2N.ps_raise hc tk (pmk_oexR0 ox ini tI F0 (hr.mono hj) hb (passF tk) hg gl hkw hn hall hks hdb hpl)) fun E σ H h => ?_
  obtain ⟨F, μ, s, r, q⟩ := tDS_mkX (W := W) D.ne gl ox no (by omega) hp hs E σ H h
  exact q.pure r [] .nil
end
end
end Ms
/-! Ms14: isinstance, an exception's field, more calls. -/
namespace Ms
open PySem PySem.Spec PyProof.Rows L2
/-! ### isinstance -/
inductive TyM (K : PySem.W.Frag) (pin : Option (Addr × Obj)) (H : Hp) : V → Value → Prop
  | base {x : V} {t : Value} (h : TyX K H x t) : TyM K pin H x t
  | ex0 {a A : Addr} (h : H a = some (ExO (.ref A) a)) (c : ExcC K A) : TyM K pin H (.ref a) (.ref A)
  | ex1 {a A dx : Addr} {fs : List (Str × V)} (h : H a = some (exo a A (some dx))) (hd : H dx = some (exd dx fs)) (c : ExcC K A) : TyM K pin H (.ref a) (.ref A)
  | exP0 {a A : Addr} {oe : Obj} (p : pin = some (a, oe)) (hc : oe.cls = .ref A) (hd : oe.dict = none) (hf : ∃ vs, oe.data = .fields vs) (c : ExcC K A) : TyM K pin H (.ref a) (.ref A)
  | exP1 {a A dx : Addr} {oe : Obj} {fs : List (Str × V)} (p : pin = some (a, oe)) (hc : oe.cls = .ref A) (hx : oe.dict = some dx) (hf : ∃ vs, oe.data = .fields vs) (hd : H dx = some (.xd fs)) (c : ExcC K A) : TyM K pin H (.ref a) (.ref A)
theorem pinOf_mem {X : Cx} {p : Addr × Obj} (h : pinOf X = some p) : p ∈ X.pn := by
  unfold pinOf at h
  split at h
  · cases h
  · exact List.mem_of_head? h
theorem notCls_fields {o : Obj} {vs : Array Value} (h : o.data = .fields vs) : PySem.W.notCls o = true := by unfold PySem.W.notCls; rw [h]
theorem has_isSome {K : PySem.W.Frag} {A : Addr} (h : PySem.W.hasDictIn K A = true) : (PySem.W.clsIn K A).isSome = true := by
  obtain ⟨cd, h1, _⟩ := PySem.W.any_some h
  rw [h1]
  rfl
section
variable {X : Cx} {pins : List (Addr × Obj)} {σ : L2.St} {H : Hp} {s : Shared}
theorem kit_ofM {x : V} {u t : Value} (I : Inv X pins σ H s) (rx : RelV x u) (ty : TyM X.K (pinOf X) H x t) : ∃ P : Heap → Prop, PySem.W.KitX X.K u t P ∧ P s.heap ∧ u ≠ .builtin "__main__.__loader__#opaque" := by
  cases ty with
  | base h => exact kit_of I rx h
  | ex0 h c =>
    cases rx
    obtain ⟨oe, vs, e, z, d, _⟩ := (I.hok _ _ h).1
    exact ⟨_, PySem.W.kitx_exc (od := none) (has_isSome c.hd) c.hg c.hk c.hs c.ha c.hn c.ht c.hm, ⟨e, z.1, notCls_fields d, by rw [z.2]; trivial⟩, fun z => nomatch z⟩
  | @ex1 a A dx fs h hd c =>
    cases rx
    obtain ⟨t1, e⟩ := exo_at I.hok h
    obtain ⟨mA, hns, _⟩ := exd_at I.hok hd
    obtain ⟨od, ho, _⟩ := lookIn_ns hns
    exact ⟨_, PySem.W.kitx_exc (od := some od) (has_isSome c.hd) c.hg c.hk c.hs c.ha c.hn c.ht c.hm, ⟨e, rfl, rfl, ho⟩, fun z => nomatch z⟩
  | exP0 p hc hd hf c =>
    cases rx
    obtain ⟨e, _⟩ := I.pin _ (List.mem_append_left _ (pinOf_mem p))
    obtain ⟨vs, d⟩ := hf
    exact ⟨_, PySem.W.kitx_exc (od := none) (has_isSome c.hd) c.hg c.hk c.hs c.ha c.hn c.ht c.hm, ⟨e, hc, notCls_fields d, by rw [hd]; trivial⟩, fun z => nomatch z⟩
  | @exP1 a A dx oe fs p hc hx hf hd c =>
    cases rx
    obtain ⟨e, _⟩ := I.pin _ (List.mem_append_left _ (pinOf_mem p))
    obtain ⟨vs, d⟩ := hf
    obtain ⟨mA, hns, _⟩ := (show ObjOk X.prog X.w H s.heap dx (.xd fs) from I.hok dx _ hd)
    obtain ⟨od, ho, _⟩ := lookIn_ns hns
    exact ⟨_, PySem.W.kitx_exc (od := some od) (has_isSome c.hd) c.hg c.hk c.hs c.ha c.hn c.ht c.hm, ⟨e, hc, notCls_fields d, by rw [hx]; exact ho⟩, fun z => nomatch z⟩
end
/-- what is asked of a type -/
inductive Ask (K : PySem.W.Frag) (H : Hp) : V → (Value → Option Bool) → Prop
  | one {c : V} {u : Value} (h : ClsV c u) : Ask K H c (fun t => PySem.W.kitOne K t u)
  | any {tp : Addr} {cs : List V} {us : List Value} (h : H tp = some (.tup cs)) (p : Paired ClsV cs us) : Ask K H (.ref tp) (fun t => PySem.W.kitAny K t us)
def rIsM (K : PySem.W.Frag) (pin : Option (Addr × Obj)) : List V → Hp → VK → Prop := fun xs H Q => ∃ (x c : V) (t : Value) (ans : Value → Option Bool) (b : Bool), xs = [x, c] ∧ Ask K H c ans ∧ TyM K pin H x t ∧ ans t = some b ∧ Q (.bl b) H
theorem call_isM {X : Cx} : CallR X (.builtin "isinstance") (rIsM X.K (pinOf X)) := by
  intro pins s σ H xs us Q I r h
  obtain ⟨x, c, t, ans, b, rfl, k, ty, e, q⟩ := h
  obtain ⟨u1, u2, rfl, r1, r2⟩ := vals2 r
  obtain ⟨P, Z, p, hx⟩ := kit_ofM I r1 ty
  cases k with
  | one k =>
    have e2 := k.eq r2
    subst e2
    exact PySem.W.kia_one Z I.kIn p e hx fun tk => ⟨.bl b, H, I.tok tk, rfl, q⟩
  | @any tp cs us hT k =>
    cases (show u2 = Value.ref tp from r2)
    obtain ⟨_, its, rv, o, h1, h2, n, h3⟩ := (show ObjOk X.prog X.w H s.heap tp (.tup cs) from I.hok tp _ hT)
    have e3 := ClsV.all k rv
    subst e3
    obtain ⟨oc, od, dt, sl⟩ := o
    simp only at h2 h3
    subst h2 h3
    exact PySem.W.kia_tup Z I.kIn p h1 e hx fun tk => ⟨.bl b, H, I.tok tk, rfl, q⟩
/-- a value's type, told -/
inductive Ty where
  | b (n : String) | x (c : Str)
def D.ty : D → Option Ty
  | .non => some (.b "NoneType")
  | .bl _ => some (.b "bool")
  | .int _ => some (.b "int")
  | .str _ => some (.b "str")
  | .tup _ => some (.b "tuple")
  | .lst _ => some (.b "list")
  | .dct _ _ _ => some (.b "dict")
  | .exc c _ _ => some (.x c)
  | _ => none
def D.tyS (s : Sta) (d : D) : Option Ty := match d.ty with
  | some t => some t
  | none => (d.seqL s).map fun _ => .b "list"
/-- the answers kt are right -/
structure KtOk (K : PySem.W.Frag) (mg : Str → Option Value) (ans : Value → Option Bool) (kt : Ty → Option Bool) : Prop where
  b : ∀ n b, kt (.b n) = some b → ans (.type n) = some b
  x : ∀ c b A, kt (.x c) = some b → mg c = some (.ref A) → ans (.ref A) = some b ∧ ExcC K A
theorem ty_at {C : RC} {F : Addr → Prop} {μ : List Addr} {s : Sta} {σ : L2.St} {H : Hp} {ans : Value → Option Bool} {kt : Ty → Option Bool} {v : V} {d : D} {t : Ty} {b : Bool} (hk : KtOk C.K C.mg ans kt) (r : Rep C F μ s σ H) (h : AtX C F μ s σ H v d) (e : d.tyS s = some t) (eb : kt t = some b) : ∃ tv, TyM C.K C.pin H v tv ∧ ans tv = some b := by
  have lst : ∀ l, d.seqL s = some l → t = .b "list" → ∃ tv, TyM C.K C.pin H v tv ∧ ans tv = some b := fun l e1 e2 => by
    subst e2
    obtain ⟨a, vs, rfl, q, _⟩ := r.seqL h e1
    exact ⟨_, .base (.base (.lst q)), hk.b _ _ eb⟩
  have own : d.ty = none → ∃ tv, TyM C.K C.pin H v tv ∧ ans tv = some b := fun n => by
    unfold D.tyS at e
    rw [n] at e
    obtain ⟨l, e1, e2⟩ := Option.map_eq_some_iff.mp e
    exact lst l e1 e2.symm
  cases d with
  | ref g => exact own rfl
  | own i => exact own rfl
  | scr l => exact own rfl
  | non => cases e; cases At.non_inv h; exact ⟨_, .base (.base .non), hk.b _ _ eb⟩
  | bl k => cases e; cases At.bl_inv h; exact ⟨_, .base (.base (.bl k)), hk.b _ _ eb⟩
  | int k => cases e; cases at_int (T := F) h; exact ⟨_, .base (.base (.int k)), hk.b _ _ eb⟩
  | str k => cases e; cases at_str h; exact ⟨_, .base (.base (.str k)), hk.b _ _ eb⟩
  | tup l =>
    cases e
    obtain ⟨a, vs, rfl, f | ⟨_, o, its, n, lk, oc, _⟩, c⟩ := At.tup_inv h
    · exact ⟨_, .base (.base (.tup f.2)), hk.b _ _ eb⟩
    · exact ⟨_, .base (.kTuple lk oc), hk.b _ _ eb⟩
  | lst l =>
    cases e
    obtain ⟨a, vs, rfl, f, c⟩ := At.lst_inv h
    exact ⟨_, .base (.base (.lst f.2)), hk.b _ _ eb⟩
  | dct t ks l =>
    cases e
    obtain ⟨a, vs, rfl, _, f, c⟩ := At.dct_inv h
    rcases f with ⟨_, kvs, f, _⟩ | ⟨_, kvs, f, _⟩
    · exact ⟨_, .base (.base (.dK f)), hk.b _ _ eb⟩
    · exact ⟨_, .base (.base (.dT f)), hk.b _ _ eb⟩
  | exc c n d =>
    cases e
    have h' : At C (Tab F μ s σ) μ H v (.exc c n d) := h
    cases h' with
    | exc0 g f => exact ⟨_, .ex0 f.2 (hk.x _ _ _ eb g).2, (hk.x _ _ _ eb g).1⟩
    | exc1 g f fd _ _ _ => exact ⟨_, .ex1 f.2 fd.2 (hk.x _ _ _ eb g).2, (hk.x _ _ _ eb g).1⟩
    | excP0 g p hc hd hf => exact ⟨_, .exP0 p hc hd hf (hk.x _ _ _ eb g).2, (hk.x _ _ _ eb g).1⟩
    | excP1 g p hc hx hf hd _ _ _ => exact ⟨_, .exP1 p hc hx hf hd.2 (hk.x _ _ _ eb g).2, (hk.x _ _ _ eb g).1⟩
def M.isI (kt : Ty → Option Bool) (m : M D) : M D := do
  let d ← m
  M.look fun s => ((d.tyS s).bind kt).map .bl
section
variable {X : Cx} {W : WX} {a e c : Expr} {p pos : Pos} {m : M D} {cv : V} {kt : Ty → Option Bool} {k : Nat} {cs : List V} {us : List Value} {es : List Expr}
theorem isM_use {C : RC} {F : Addr → Prop} {μ : List Addr} {s : Sta} {σ : L2.St} {H H' : Hp} {v : V} {d : D} {ans : Value → Option Bool} {Q : VK} (hk : KtOk C.K C.mg ans kt) (r : Rep C F μ s σ H) (h : AtX C F μ s σ H v d) (x : Ext C F μ s σ H μ s σ H') (ha : Ask C.K H' cv ans)
    (q : Res C W F μ s σ H (M.look fun s => ((d.tyS s).bind kt).map .bl) fun z μ' s' H' => ∀ v, AtX C F μ' s' σ H' v z → Q v H') : rIsM C.K C.pin [v, cv] H' Q := by
  obtain ⟨z, ez, k⟩ := res_look q
  obtain ⟨b, eb, rfl⟩ := Option.map_eq_some_iff.mp ez
  obtain ⟨t, et, ek⟩ := Option.bind_eq_some_iff.mp eb
  obtain ⟨tv, ty, an⟩ := ty_at hk x.rep (x.atX h) et ek
  exact ⟨v, cv, tv, ans, b, rfl, ha, ty, an, k _ x _ (.of (.bl _))⟩
theorem d_isI {u : Value} (hg : Gl X "isinstance") (hm : X.mg "isinstance" = none) (ha : PE X a (tD (XC X) W m)) (hc : PE X c (tC cv)) (hu : ClsV cv u) (hk : KtOk X.K X.mg (fun t => PySem.W.kitOne X.K t u) kt)
    (hs : starEach [a, c] X.env = (false, eval a X.env) :: starEach [c] X.env := by rfl) (hs2 : starEach [c] X.env = (false, eval c X.env) :: starEach [] X.env := by rfl) (hpl : (backTo pos (starEach [c] X.env)).any (·.1) = false := by rfl) :
    PE X (.Call (.Name "isinstance" p) [a, c] [] pos) (tD (XC X) W (M.isI kt m)) := by
  refine peImp (pe_callB call_isM hg hm PyProof.Rows.Boot.«isinstance» (pa_cons ha (pa_cons hc pa_nil hs2) hs) (by decide) (by decide) hs hpl) fun σ H Q ⟨F, μ, s, r, q⟩ => ?_
  refine ⟨F, μ, s, r, q.split.imp fun d μ1 s1 H1 x1 h1 v hv => ?_⟩
  exact isM_use (C := XC X) hk x1.rep hv (.refl x1.rep) (.one hu) h1
/-- classes, one behind another -/
inductive PCls (X : Cx) : List Expr → List V → List Value → Prop
  | nil : PCls X [] [] []
  | cons {e : Expr} {es : List Expr} {v : V} {u : Value} {vs : List V} {us : List Value} (h : PE X e (tC v)) (c : ClsV v u) (hs : starEach (e :: es) X.env = (false, eval e X.env) :: starEach es X.env) (t : PCls X es vs us) : PCls X (e :: es) (v :: vs) (u :: us)
theorem PCls.pa : ∀ {es : List Expr} {vs : List V} {us : List Value}, PCls X es vs us → PA X es (fun _ H Q => Q vs H)
  | _, _, _, .nil => pa_nil
  | _, _, _, .cons h _ hs t => paImp (pa_cons h t.pa hs) fun _ _ _ q => q
theorem PCls.paired : ∀ {es : List Expr} {vs : List V} {us : List Value}, PCls X es vs us → Paired ClsV vs us
  | _, _, _, .nil => .nil
  | _, _, _, .cons _ c _ t => .cons c t.paired
theorem d_isIT {tpos : Pos} (hg : Gl X "isinstance") (hm : X.mg "isinstance" = none) (ha : PE X a (tD (XC X) W m)) (hc : PCls X es cs us) (hl : cs.length ≤ 1000) (hk : KtOk X.K X.mg (fun t => PySem.W.kitAny X.K t us) kt)
    (hs : starEach [a, .Tuple es k tpos] X.env = (false, eval a X.env) :: starEach [.Tuple es k tpos] X.env := by rfl) (hs2 : starEach [.Tuple es k tpos] X.env = (false, eval (.Tuple es k tpos) X.env) :: starEach [] X.env := by rfl) (hpl : (backTo pos (starEach [.Tuple es k tpos] X.env)).any (·.1) = false := by rfl) :
    PE X (.Call (.Name "isinstance" p) [a, .Tuple es k tpos] [] pos) (tD (XC X) W (M.isI kt m)) := by
  refine peImp (pe_callB call_isM hg hm PyProof.Rows.Boot.«isinstance» (pa_cons ha (pa_cons (pe_tup hc.pa) pa_nil hs2) hs) (by decide) (by decide) hs hpl) fun σ H Q ⟨F, μ, s, r, q⟩ => ?_
  refine ⟨F, μ, s, r, q.split.imp fun d μ1 s1 H1 x1 h1 v hv => ⟨by rw [sizeLine_eq]; omega, fun tp hp => ?_⟩⟩
  exact isM_use (C := XC X) hk x1.rep hv (x1.rep.ext1 hp) (.any upd_same hc.paired) h1
/-! ### an exception's field -/
structure XfOk (K : PySem.W.Frag) (mg : Str → Option Value) (f : Str) (cs : List Str) : Prop where
  ok : ∀ c ∈ cs, ∀ A, mg c = some (.ref A) → XfC K A ∧ PySem.W.findIn K (.ref A) f = some none
def fldD (f : Str) (cs : List Str) : D → Option D
  | .exc c n d => if n = f ∧ n ≠ Str.empty ∧ c ∈ cs then some d else none
  | _ => none
def M.xf (f : Str) (cs : List Str) (m : M D) : M D := do M.opt (fldD f cs (← m))
theorem d_xf {f : Str} {cs : List Str} (T : XfOk X.K X.mg f cs) (he : PE X e (tD (XC X) W m)) (hb : attributeBase e f X.env (eval e X.env) = eval e X.env := by rfl) : PE X (.Attribute e f pos) (tD (XC X) W (M.xf f cs m)) := by
  refine ⟨fun pins s σ H Q I h => ?_⟩
  obtain ⟨F, μ, st, r, q⟩ := h
  refine attr_of hb (thn (he.run pins s σ H (fun x H1 => ∃ a A dx fs v, x = V.ref a ∧ XfC X.K A ∧ PySem.W.findIn X.K (.ref A) f = some none ∧ fs.lookup f = some v ∧ Q v H1 ∧ (H1 a = some (exo a A (some dx)) ∧ H1 dx = some (exd dx fs) ∨ ∃ oe, pinOf X = some (a, oe) ∧ oe.cls = .ref A ∧ oe.dict = some dx ∧ (∃ vs, oe.data = .fields vs) ∧ H1 dx = some (.xd fs))) I ⟨F, μ, st, r, q.split.imp fun d μ1 s1 H1 x1 h1 v hv => ?_⟩) fun u s1 hh => ?_)
  · obtain ⟨z, ez, k⟩ := res_opt x1.rep h1
    unfold fldD at ez
    split at ez
    · split at ez
      · rename_i c n d hc
        cases ez
        obtain ⟨rfl, hn, hc⟩ := hc
        have hv' : At (XC X) (Tab F μ1 s1 σ) μ1 H1 v (.exc c n z) := hv
        cases hv' with
        | exc0 => exact absurd rfl hn
        | excP0 => exact absurd rfl hn
        | exc1 g f fd _ hl hw =>
          obtain ⟨t1, t2⟩ := T.ok c hc _ g
          exact ⟨_, _, _, _, _, rfl, t1, t2, hl, k _ (.of hw), .inl ⟨f.2, fd.2⟩⟩
        | excP1 g p hcl hx hf hd _ hl hw =>
          obtain ⟨t1, t2⟩ := T.ok c hc _ g
          exact ⟨_, _, _, _, _, rfl, t1, t2, hl, k _ (.of hw), .inr ⟨_, p, hcl, hx, hf, hd.2⟩⟩
      · cases ez
    · cases ez
  · obtain ⟨x, H1, I1, rx, a, A, dx, fs, v, ex, t1, hno, l, qq, hh⟩ := hh
    subst ex
    obtain rfl : u = Value.ref a := rx
    rcases hh with ⟨ea, ed⟩ | ⟨oe, p, hcl, hx, ⟨vs, hd⟩, ed⟩
    · obtain ⟨t0, e0⟩ := exo_at I1.hok ea
      obtain ⟨mA, hns, hr⟩ := exd_at I1.hok ed
      obtain ⟨od, ho, hl⟩ := lookIn_ns hns
      obtain ⟨u, hu, ru⟩ := RelO.some_of (v := v) (o := mA f) (by rw [← l]; exact hr f)
      have J : PySem.W.InstAt s1.heap a _ A (some od) := ⟨e0, rfl, rfl, ho⟩
      exact HandSPX.exc_get I1.kIn J t1.ga t1.gg t1.exC (PySem.W.findObj_own t1.hdC hno rfl (by rw [hl, hu])) (handed_of ru) ⟨v, H1, I1.tok _, ru, qq⟩
    · obtain ⟨e0, _⟩ := I1.pin _ (List.mem_append_left _ (pinOf_mem p))
      obtain ⟨mA, hns, hr⟩ := (show ObjOk X.prog X.w H1 s1.heap dx (.xd fs) from I1.hok dx _ ed)
      obtain ⟨od, ho, hl⟩ := lookIn_ns hns
      obtain ⟨u, hu, ru⟩ := RelO.some_of (v := v) (o := mA f) (by rw [← l]; exact hr f)
      have J : PySem.W.InstAt s1.heap a oe A (some od) := ⟨e0, hcl, by unfold PySem.W.notCls; rw [hd], by rw [hx]; exact ho⟩
      exact HandSPX.exc_get I1.kIn J t1.ga t1.gg t1.exC (PySem.W.findObj_own t1.hdC hno rfl (by rw [hl, hu])) (handed_of ru) ⟨v, H1, I1.tok _, ru, qq⟩
end
end Ms
/-! Ms15: shared lists, changes in place, built-in functions. -/
namespace Ms
open PySem PySem.Spec PyProof.Rows L2
def M.newL (m : M (List D)) : M D := do
  let ds ← m
  fun s => .ok (.ref s.G.length) { s with G := s.G ++ [.lst ds] }
/-- a change in place -/
def mutD (s : Sta) (o : D) (f : MO → Option MO) : Option Sta := match o with
  | .own i => match s.ρ[i]? with
    | some (.own mo) => (f mo).map fun mo' => { s with ρ := s.ρ.set i (.own mo') }
    | _ => none
  | .ref g => match s.G[g]? with
    | some mo => (f mo).map fun mo' => { s with G := s.G.set g mo' }
    | _ => none
  | _ => none
def M.mut (o : D) (f : MO → Option MO) : M D := fun s => match mutD s o f with
  | some s' => .ok .non s'
  | none => .stuck
section
variable {C : RC} {W : WX} {F : Addr → Prop} {μ : List Addr} {s s' : Sta} {σ : L2.St} {H : Hp}
theorem Rep.mut (r : Rep C F μ s σ H) {x : V} {o : D} {f : MO → Option MO} (hx : AtX C F μ s σ H x o) (e : mutD s o f = some s') : ∃ (a : Addr) (mo mo' : MO), x = .ref a ∧ RepO C (Tab F μ s σ) μ H a mo ∧ f mo = some mo' ∧
    ∀ u, (Keep (Tab F μ s σ) (Tab F μ s σ) H (upd H a u) → RepO C (Tab F μ s σ) μ (upd H a u) a mo') → Ext C F μ s σ H μ s' σ (upd H a u) := by
  unfold mutD at e
  split at e
  · rename_i i
    split at e
    · rename_i mo e1
      obtain ⟨mo', e2, rfl⟩ := Option.map_eq_some_iff.mp e
      obtain ⟨a, ea, q⟩ := r.slots i _ e1
      have hx' : σ[i]? = some (some x) := hx
      rw [hx'] at ea
      cases ea
      exact ⟨a, mo, mo', rfl, q, e2, fun u h => r.mutOwn e1 hx' h⟩
    · cases e
  · rename_i g
    split at e
    · rename_i mo e1
      obtain ⟨mo', e2, rfl⟩ := Option.map_eq_some_iff.mp e
      obtain ⟨a, rfl, ea⟩ := At.ref_inv hx
      obtain ⟨b, eb, q⟩ := r.objs g _ e1
      rw [ea] at eb
      cases eb
      exact ⟨a, mo, mo', rfl, q, e2, fun u h => r.mutG e1 ea h⟩
    · cases e
  · cases e
theorem res_mut {o : D} {f : MO → Option MO} {K : D → List Addr → Sta → Hp → Prop} (h : Res C W F μ s σ H (M.mut o f) K) : ∃ s', mutD s o f = some s' ∧ ∀ μ' H', Ext C F μ s σ H μ' s' σ H' → K .non μ' s' H' := by
  unfold Res M.mut at h
  cases e : mutD s o f with
  | none => simp only [e] at h
  | some s' =>
    simp only [e] at h
    exact ⟨s', rfl, h⟩
end
def appF (v : D) : MO → Option MO
  | .lst l => if lenOk (l.length + 1) then some (.lst (l ++ [v])) else none
  | _ => none
def putF (i v : D) : MO → Option MO
  | .lst l => match i with
    | .int k => (ixN l.length k).map fun j => .lst (l.set j v)
    | _ => none
  | _ => none
section
variable {X : Cx} {W : WX} {a e b c o i : Expr} {es : List Expr} {p pos pos' apos : Pos} {m mo mi mv : M D} {ml : M (List D)} {ms : List (M D)}
theorem d_newL (h : PE X a (tDF (XC X) W ml)) : PE X a (tD (XC X) W (M.newL ml)) :=
  peImp h fun σ H Q ⟨F, μ, s, r, q⟩ => ⟨F, μ, s, r, q.split.imp fun ds μ1 s1 H1 x1 h1 p vs hp hv => by
    have x2 := x1.rep.newG (o := .lst ds) (H' := upd H1 p (.lst vs)) hp (fun b u e => by rw [upd_ne (ne_of_none e hp)]; exact e) fun T k => ⟨vs, upd_same, hv.keep k ⟨[p], rfl⟩⟩
    refine h1 (μ1 ++ [p]) _ x2 (.ref p) (.of (.ref ?_))
    rw [← x1.rep.lenG, List.getElem?_append_right (Nat.le_refl _)]
    simp⟩
theorem AtL.setAt {C : RC} {T : Addr → Prop} {μ : List Addr} {H : Hp} {v : V} {d : D} (h : At C T μ H v d) : ∀ {vs : List V} {ds : List D} (j : Nat), AtL C T μ H vs ds → AtL C T μ H (vs.set j v) (ds.set j d)
  | _, _, _, .nil => .nil
  | _, _, 0, .cons _ t => .cons h t
  | _, _, j + 1, .cons x t => .cons x (AtL.setAt h j t)
def M.setIx (mo mi mv : M D) : M Fl := do
  let v ← mv
  let v ← M.out v
  let o ← mo
  let i ← mi
  let i ← M.out i
  let _ ← M.mut o (putF i v)
  pure .nx
theorem ds_setIx (hv : PE X e (tD (XC X) W mv)) (ho : PE X o (tD (XC X) W mo)) (hi : PE X i (tD (XC X) W mi)) (hs : swapsWithSole [.Subscript o i pos'] e pos.line X.env = pure false := by rfl) (hw : swappedStores [.Subscript o i pos'] e X.env = pure none := by rfl)
    (h1 : (assignEach [.Subscript o i pos'] X.env).map (·.2) = [assign (.Subscript o i pos') X.env] := by rfl)
    (ha : ∀ v, assign (.Subscript o i pos') X.env v = (do
      let ov ← holding [v] (eval o X.env)
      let iv ← holding [v, ov] (eval i X.env)
      standAt pos'
      holding [v, ov, iv] (setItem ov iv v)
      release [v, ov, iv] []) := by intro _; rfl) : PS X (.Assign [.Subscript o i pos'] e pos) (tDS (XC X) W (M.setIx mo mi mv)) := by
  refine psImp (ps_asg hv (pg_sub ho hi set_list ha) hs hw h1) fun E σ H ⟨F, μ, s, r, q⟩ => ?_
  refine ⟨F, μ, s, r, q.splitE.imp fun d μ1 s1 H1 x1 h1 v hv => ?_⟩
  have h1 := h1.splitE
  cases ow : d.isOwn with
  | true =>
    have e1 : M.out d = M.stuck := by unfold M.out; rw [ow]; rfl
    rw [e1] at h1
    exact (res_stuck h1).elim
  | false =>
    have e1 : M.out d = pure d := by unfold M.out; rw [ow]; rfl
    rw [e1] at h1
    have h1 := h1.pure x1.rep
    refine ⟨F, μ1, s1, x1.rep, h1.splitE.imp fun o μ2 s2 H2 x2 h2 ov hov => ⟨F, μ2, s2, x2.rep, h2.splitE.imp fun i μ3 s3 H3 x3 h3 iv hiv => ?_⟩⟩
    have h3 := h3.splitE
    cases ow2 : i.isOwn with
    | true =>
      have e2 : M.out i = M.stuck := by unfold M.out; rw [ow2]; rfl
      rw [e2] at h3
      exact (res_stuck h3).elim
    | false =>
      have e2 : M.out i = pure i := by unfold M.out; rw [ow2]; rfl
      rw [e2] at h3
      have h3 := (h3.pure x3.rep).splitE
      obtain ⟨s4, em, k⟩ := res_mut h3
      obtain ⟨a, mo1, mo2, rfl, q1, ef, x4⟩ := x3.rep.mut (x3.atX hov) em
      unfold putF at ef
      split at ef
      · rename_i l
        split at ef
        · rename_i kk _ _
          obtain ⟨j, ej, rfl⟩ := Option.map_eq_some_iff.mp ef
          cases at_int (T := F) hiv
          obtain ⟨vs, ea, cl⟩ := q1
          have y := x4 (.lst (vs.set j v)) fun kp => ⟨_, upd_same, (cl.keep kp (List.prefix_refl _)).setAt (((x3.at (x2.at (hv.at ow))).keep kp (List.prefix_refl _))) j⟩
          refine ⟨a, vs, kk, j, rfl, rfl, ea, by rw [cl.length]; exact ej, ?_⟩
          have z := k μ3 _ y
          exact (show ResS (XC X) W F μ3 s4 σ _ (pure .nx) _ from z).pure y.rep
        · cases ef
      · cases ef
def M.isL (o : D) : M D := M.look fun s => (o.seqL s).map fun _ => o
def M.append (mo mv : M D) : M D := do
  let o ← mo
  let o ← M.isL o
  let v ← mv
  let v ← M.out v
  M.mut o (appF v)
theorem d_append (ho : PE X o (tD (XC X) W mo)) (hv : PE X e (tD (XC X) W mv)) (hbase : attributeBase o "append" X.env (eval o X.env) = eval o X.env := by rfl)
    (hfew : ((backTo pos (starEach (e :: []) X.env)).all (fun x => !x.1) && (backToKw pos (keywordEach [] X.env)).all (fun x => x.1.isSome)
      && decide ((e :: []).length + ([] : List Keyword).length + (if ([] : List Keyword).isEmpty then 0 else 1) < 30)) = true := by rfl)
    (hline : (apos.endLine == pos.line) = true := by rfl) (hs : starEach (e :: []) X.env = (false, eval e X.env) :: starEach [] X.env := by rfl) (hplain : (backTo pos (starEach [] X.env)).any (·.1) = false := by rfl) :
    PE X (.Call (.Attribute o "append" apos) [e] [] pos) (tD (XC X) W (M.append mo mv)) := by
  refine peImp (pe_bm PySem.F.plainAttrs_list PySem.F.slot_list_append PySem.F.type_list_append mt_append ho (pa_cons hv pa_nil hs) hbase hfew hline hs hplain) fun σ H Q ⟨F, μ, s, r, q⟩ => ?_
  refine ⟨F, μ, s, r, q.split.imp fun o μ1 s1 H1 x1 h1 ov hov => ?_⟩
  obtain ⟨z, ez, k⟩ := res_look h1.split
  obtain ⟨l, el, rfl⟩ := Option.map_eq_some_iff.mp ez
  have h2 := k H1 (.refl x1.rep)
  obtain ⟨p, ws, rfl, hp, _⟩ := x1.rep.seqL hov el
  refine ⟨.inl ⟨rfl, _, .of hp⟩, F, μ1, s1, x1.rep, h2.split.imp fun v μ2 s2 H2 x2 h2 vv hvv => ?_⟩
  obtain ⟨nv, h2⟩ := res_out x2.rep h2
  obtain ⟨s3, em, k3⟩ := res_mut h2
  obtain ⟨a, mo1, mo2, ea, q1, ef, x4⟩ := x2.rep.mut (x2.atX hov) em
  cases ea
  unfold appF at ef
  split at ef
  · split at ef
    · rename_i hl
      cases ef
      obtain ⟨vs, e1, cl⟩ := q1
      have y := x4 (.lst (vs ++ [vv])) fun kp => ⟨_, upd_same, (cl.keep kp (List.prefix_refl _)).append (.cons ((hvv.at nv).keep kp (List.prefix_refl _)) .nil)⟩
      have hz := lenOk_line hl
      exact ⟨p, vs, vv, rfl, rfl, e1, by rw [cl.length]; omega, k3 _ _ y _ (.of .non)⟩
    · cases ef
  · cases ef
end
end Ms
/-! Ms16: built-in functions of one, two values; join; constants. -/
namespace Ms
open PySem PySem.Spec PyProof.Rows L2
def OpD1 (C : RC) (r : List V → Hp → VK → Prop) (f : D → M D) : Prop := ∀ {W : WX} {F : Addr → Prop} {μ : List Addr} {s : Sta} {σ : L2.St} {H : Hp} {x : V} {d : D} {Q : VK}, Rep C F μ s σ H → AtX C F μ s σ H x d →
  Res C W F μ s σ H (f d) (fun z μ' s' H' => ∀ v, AtX C F μ' s' σ H' v z → Q v H') → r [x] H Q
def OpD2 (C : RC) (r : List V → Hp → VK → Prop) (f : D → D → M D) : Prop := ∀ {W : WX} {F : Addr → Prop} {μ : List Addr} {s : Sta} {σ : L2.St} {H : Hp} {x y : V} {d e : D} {Q : VK}, Rep C F μ s σ H → AtX C F μ s σ H x d → AtX C F μ s σ H y e →
  Res C W F μ s σ H (f d e) (fun z μ' s' H' => ∀ v, AtX C F μ' s' σ H' v z → Q v H') → r [x, y] H Q
def M.op1 (f : D → M D) (m : M D) : M D := do f (← m)
section
variable {X : Cx} {W : WX} {x : Str} {e a b : Expr} {p pos apos : Pos} {m ma mb : M D} {id T : String} {r : List V → Hp → VK → Prop}
theorem d_blt1 {f : D → M D} (hr : OpD1 (XC X) r f) (hc : CallR X (.builtin id) r) (hg : Gl X x) (hm : X.mg x = none) (hv : bootBuiltins x = some (.builtin id)) (he : PE X e (tD (XC X) W m)) (hn : x ≠ "__name__" := by decide) (hdb : (x == ("__debug__" : Str)) = false := by decide)
    (hs : starEach [e] X.env = (false, eval e X.env) :: starEach [] X.env := by rfl) (hpl : (backTo pos (starEach [] X.env)).any (·.1) = false := by rfl) : PE X (.Call (.Name x p) [e] [] pos) (tD (XC X) W (M.op1 f m)) :=
  peImp (pe_callB hc hg hm hv (pa_cons he pa_nil hs) hn hdb hs hpl) fun σ H Q ⟨F, μ, s, rp, q⟩ => ⟨F, μ, s, rp, q.split.imp fun d μ1 s1 H1 x1 h1 v hv => hr x1.rep hv h1⟩
theorem d_bltT1 {f : D → M D} (hr : OpD1 (XC X) r f) (hc : CallR X (.type T) r) (hg : Gl X x) (hm : X.mg x = none) (hv : bootBuiltins x = some (.type T)) (he : PE X e (tD (XC X) W m)) (hn : x ≠ "__name__" := by decide) (hdb : (x == ("__debug__" : Str)) = false := by decide)
    (hs : starEach [e] X.env = (false, eval e X.env) :: starEach [] X.env := by rfl) (hpl : (backTo pos (starEach [] X.env)).any (·.1) = false := by rfl) : PE X (.Call (.Name x p) [e] [] pos) (tD (XC X) W (M.op1 f m)) :=
  peImp (pe_callTy hc hg hm hv (pa_cons he pa_nil hs) hn hdb hs hpl) fun σ H Q ⟨F, μ, s, rp, q⟩ => ⟨F, μ, s, rp, q.split.imp fun d μ1 s1 H1 x1 h1 v hv => hr x1.rep hv h1⟩
theorem d_blt2 {f : D → D → M D} (hr : OpD2 (XC X) r f) (hc : CallR X (.builtin id) r) (hg : Gl X x) (hm : X.mg x = none) (hv : bootBuiltins x = some (.builtin id)) (ha : PE X a (tD (XC X) W ma)) (hb : PE X b (tD (XC X) W mb)) (hn : x ≠ "__name__" := by decide) (hdb : (x == ("__debug__" : Str)) = false := by decide)
    (hs : starEach [a, b] X.env = (false, eval a X.env) :: starEach [b] X.env := by rfl) (hs2 : starEach [b] X.env = (false, eval b X.env) :: starEach [] X.env := by rfl) (hpl : (backTo pos (starEach [b] X.env)).any (·.1) = false := by rfl) : PE X (.Call (.Name x p) [a, b] [] pos) (tD (XC X) W (M.op2 f ma mb)) :=
  peImp (pe_callB hc hg hm hv (pa_cons ha (pa_cons hb pa_nil hs2) hs) hn hdb hs hpl) fun σ H Q ⟨F, μ, s, rp, q⟩ => ⟨F, μ, s, rp, q.split.imp fun d μ1 s1 H1 x1 h1 v hv => ⟨F, μ1, s1, x1.rep, h1.split.imp fun e μ2 s2 H2 x2 h2 w hw => hr x2.rep (x2.atX hv) hw h2⟩⟩
end
section
variable {C : RC} {W : WX} {F : Addr → Prop} {μ : List Addr} {s : Sta} {σ : L2.St} {H : Hp}
/-! ### len, abs, int, min, max -/
def lenD (s : Sta) : D → Option Nat
  | .tup l => some l.length
  | .str x => if lenOk x.length then some x.length else none
  | .scr l => some l.length
  | d => (d.seqL s).map (·.length)
abbrev fLen : D → M D := fun d => M.look fun s => (lenD s d).map fun n => .int (n : Nat)
theorem len_ok : OpD1 C (fun xs H Q => ∃ x n, xs = [x] ∧ LenV C.K x H n ∧ Q (.int (n : Nat)) H) fLen := by
  intro W F μ s σ H x d Q r hx h
  obtain ⟨z, ez, k⟩ := res_look h
  obtain ⟨n, en, rfl⟩ := Option.map_eq_some_iff.mp ez
  refine ⟨x, n, rfl, ?_, k H (.refl r) _ (.of (.int _))⟩
  unfold lenD at en
  split at en
  · cases en
    obtain ⟨a, vs, rfl, hp, c⟩ := At.tup_inv hx
    exact .inr ⟨vs, SqTA.sq hp, c.length.symm⟩
  · split at en
    · rename_i l
      cases en
      cases at_str hx
      exact ⟨lenOk_line l, rfl⟩
    · cases en
  · cases en
    obtain ⟨a, rfl, hq⟩ := At.scr_inv hx
    exact .inl ⟨_, hq, by simp⟩
  · obtain ⟨l, e1, rfl⟩ := Option.map_eq_some_iff.mp en
    obtain ⟨a, vs, rfl, hp, c⟩ := r.seqL hx e1
    exact .inl ⟨vs, .of hp, c.length.symm⟩
/-- a scalar's function -/
def sc1 (g : D → Option D) : D → M D := fun d => M.look fun _ => g d
def gAbs : D → Option D
  | .int i => some (.int (if i < 0 then -i else i))
  | _ => none
theorem abs_ok : OpD1 C (fun xs H Q => ∃ i, xs = [.int i] ∧ Q (.int (if i < 0 then -i else i)) H) (sc1 gAbs) := by
  intro W F μ s σ H x d Q r hx h
  obtain ⟨z, ez, k⟩ := res_look h
  unfold gAbs at ez
  split at ez
  · cases ez
    cases at_int (T := F) hx
    exact ⟨_, rfl, k H (.refl r) _ (.of (.int _))⟩
  · cases ez
def gInt : D → Option D
  | .int i => some (.int i)
  | .bl k => some (.int (if k then 1 else 0))
  | _ => none
theorem int_ok1 : OpD1 C (fun xs H Q => (∃ i, xs = [.int i] ∧ Q (.int i) H) ∨ ∃ k, xs = [.bl k] ∧ Q (.int (if k then 1 else 0)) H) (sc1 gInt) := by
  intro W F μ s σ H x d Q r hx h
  obtain ⟨z, ez, k⟩ := res_look h
  unfold gInt at ez
  split at ez
  · cases ez
    cases at_int (T := F) hx
    exact .inl ⟨_, rfl, k H (.refl r) _ (.of (.int _))⟩
  · cases ez
    cases At.bl_inv hx
    exact .inr ⟨_, rfl, k H (.refl r) _ (.of (.int _))⟩
  · cases ez
def gStr : D → Option D
  | .int i => if i.natAbs.log2 < 1920 then some (.str (toString i)) else none
  | .str z => some (.str z)
  | _ => none
theorem str_ok1 : OpD1 C (fun xs H Q => (∃ i, xs = [.int i] ∧ i.natAbs.log2 < 1920 ∧ Q (.str (toString i)) H) ∨ ∃ a, xs = [.str a] ∧ Q (.str a) H) (sc1 gStr) := by
  intro W F μ s σ H x d Q r hx h
  obtain ⟨z, ez, k⟩ := res_look h
  unfold gStr at ez
  split at ez
  · split at ez
    · cases ez
      cases at_int (T := F) hx
      exact .inl ⟨_, rfl, by assumption, k H (.refl r) _ (.of (.str _))⟩
    · cases ez
  · cases ez
    cases at_str hx
    exact .inr ⟨_, rfl, k H (.refl r) _ (.of (.str _))⟩
  · cases ez
def gOrd : D → Option D
  | .str z => if z.length = 1 then some (.int (z.cps.getD 0 0 : Nat)) else none
  | _ => none
theorem ord_ok1 : OpD1 C (fun xs H Q => ∃ x : Str, xs = [.str x] ∧ x.length = 1 ∧ Q (.int (x.cps.getD 0 0 : Nat)) H) (sc1 gOrd) := by
  intro W F μ s σ H x d Q r hx h
  obtain ⟨z, ez, k⟩ := res_look h
  unfold gOrd at ez
  split at ez
  · split at ez
    · cases ez
      cases at_str hx
      exact ⟨_, rfl, by assumption, k H (.refl r) _ (.of (.int _))⟩
    · cases ez
  · cases ez
def gMin (i j : Int) : Option D := some (.int (if j < i then j else i))
def gMax (i j : Int) : Option D := some (.int (if j > i then j else i))
theorem min_ok : OpD2 C (fun xs H Q => ∃ i j, xs = [.int i, .int j] ∧ Q (.int (if j < i then j else i)) H) (fInt gMin) := by
  intro W F μ s σ H x y d e Q r hx hy h
  obtain ⟨z, ez, k⟩ := res_look h
  obtain ⟨i, j, rfl, rfl, eg⟩ := intD_inv ez
  cases eg
  cases at_int (T := F) hx
  cases at_int (T := F) hy
  exact ⟨i, j, rfl, k H (.refl r) _ (.of (.int _))⟩
theorem max_ok : OpD2 C (fun xs H Q => ∃ i j, xs = [.int i, .int j] ∧ Q (.int (if j > i then j else i)) H) (fInt gMax) := by
  intro W F μ s σ H x y d e Q r hx hy h
  obtain ⟨z, ez, k⟩ := res_look h
  obtain ⟨i, j, rfl, rfl, eg⟩ := intD_inv ez
  cases eg
  cases at_int (T := F) hx
  cases at_int (T := F) hy
  exact ⟨i, j, rfl, k H (.refl r) _ (.of (.int _))⟩
/-! ### lists of one kind -/
def asInts : List D → Option (List Int)
  | [] => some []
  | .int i :: l => (asInts l).map (i :: ·)
  | _ :: _ => none
def asBls : List D → Option (List Bool)
  | [] => some []
  | .bl i :: l => (asBls l).map (i :: ·)
  | _ :: _ => none
def asStrs : List D → Option (List Str)
  | [] => some []
  | .str i :: l => (asStrs l).map (i :: ·)
  | _ :: _ => none
theorem asInts_at {T : Addr → Prop} : ∀ {ds : List D} {vs : List V} {l : List Int}, AtL C T μ H vs ds → asInts ds = some l → vs = l.map V.int
  | [], _, _, .nil, e => by cases e; rfl
  | .int i :: ds, _, _, .cons h t, e => by
    obtain ⟨l, e1, rfl⟩ := Option.map_eq_some_iff.mp e
    rw [h.int_inv, asInts_at t e1]
    rfl
  | .non :: _, _, _, _, e | .bl _ :: _, _, _, _, e | .str _ :: _, _, _, _, e | .tup _ :: _, _, _, _, e | .lst _ :: _, _, _, _, e | .dct _ _ _ :: _, _, _, _, e | .exc _ _ _ :: _, _, _, _, e | .ref _ :: _, _, _, _, e | .own _ :: _, _, _, _, e | .scr _ :: _, _, _, _, e => by cases e
theorem asBls_at {T : Addr → Prop} : ∀ {ds : List D} {vs : List V} {l : List Bool}, AtL C T μ H vs ds → asBls ds = some l → vs = l.map V.bl
  | [], _, _, .nil, e => by cases e; rfl
  | .bl i :: ds, _, _, .cons h t, e => by
    obtain ⟨l, e1, rfl⟩ := Option.map_eq_some_iff.mp e
    rw [h.bl_inv, asBls_at t e1]
    rfl
  | .non :: _, _, _, _, e | .int _ :: _, _, _, _, e | .str _ :: _, _, _, _, e | .tup _ :: _, _, _, _, e | .lst _ :: _, _, _, _, e | .dct _ _ _ :: _, _, _, _, e | .exc _ _ _ :: _, _, _, _, e | .ref _ :: _, _, _, _, e | .own _ :: _, _, _, _, e | .scr _ :: _, _, _, _, e => by cases e
theorem asStrs_at {T : Addr → Prop} : ∀ {ds : List D} {vs : List V} {l : List Str}, AtL C T μ H vs ds → asStrs ds = some l → vs = l.map V.str
  | [], _, _, .nil, e => by cases e; rfl
  | .str i :: ds, _, _, .cons h t, e => by
    obtain ⟨l, e1, rfl⟩ := Option.map_eq_some_iff.mp e
    rw [h.str_inv, asStrs_at t e1]
    rfl
  | .non :: _, _, _, _, e | .int _ :: _, _, _, _, e | .bl _ :: _, _, _, _, e | .tup _ :: _, _, _, _, e | .lst _ :: _, _, _, _, e | .dct _ _ _ :: _, _, _, _, e | .exc _ _ _ :: _, _, _, _, e | .ref _ :: _, _, _, _, e | .own _ :: _, _, _, _, e | .scr _ :: _, _, _, _, e => by cases e
abbrev fSum : D → M D := fun d => M.look fun s => ((d.seqL s).bind asInts).map fun l => .int l.sum
abbrev fAny : D → M D := fun d => M.look fun s => ((d.seqL s).bind asBls).map fun l => .bl (l.any id)
abbrev fAll : D → M D := fun d => M.look fun s => ((d.seqL s).bind asBls).map fun l => .bl (l.all id)
theorem sum_ok : OpD1 C (rSum C.K) fSum := by
  intro W F μ s σ H x d Q r hx h
  obtain ⟨z, ez, k⟩ := res_look h
  obtain ⟨l, e1, rfl⟩ := Option.map_eq_some_iff.mp ez
  obtain ⟨ds, e2, e3⟩ := Option.bind_eq_some_iff.mp e1
  obtain ⟨a, vs, rfl, hp, c⟩ := r.seqL hx e2
  exact ⟨a, l, rfl, .of (by rw [hp, asInts_at c e3]), k H (.refl r) _ (.of (.int _))⟩
theorem any_ok : OpD1 C (rAny C.K) fAny := by
  intro W F μ s σ H x d Q r hx h
  obtain ⟨z, ez, k⟩ := res_look h
  obtain ⟨l, e1, rfl⟩ := Option.map_eq_some_iff.mp ez
  obtain ⟨ds, e2, e3⟩ := Option.bind_eq_some_iff.mp e1
  obtain ⟨a, vs, rfl, hp, c⟩ := r.seqL hx e2
  exact ⟨a, l, rfl, .of (by rw [hp, asBls_at c e3]), k H (.refl r) _ (.of (.bl _))⟩
theorem all_ok : OpD1 C (rAll C.K) fAll := by
  intro W F μ s σ H x d Q r hx h
  obtain ⟨z, ez, k⟩ := res_look h
  obtain ⟨l, e1, rfl⟩ := Option.map_eq_some_iff.mp ez
  obtain ⟨ds, e2, e3⟩ := Option.bind_eq_some_iff.mp e1
  obtain ⟨a, vs, rfl, hp, c⟩ := r.seqL hx e2
  exact ⟨a, l, rfl, .of (by rw [hp, asBls_at c e3]), k H (.refl r) _ (.of (.bl _))⟩
/-! ### tuple(..), list(..) -/
abbrev fTuple : D → M D := fun d => M.look fun s => match d with
  | .tup l => some (.tup l)
  | d => (d.seqL s).map .tup
theorem tuple_ok : OpD1 C (fun xs H Q => ∃ p ys, xs = [.ref p] ∧ ((SqL C.K H p ys ∧ ∀ l, H l = none → Q (.ref l) (upd H l (.tup ys))) ∨ (SqT C.K H p ys ∧ Q (.ref p) H))) fTuple := by
  intro W F μ s σ H x d Q r hx h
  obtain ⟨z, ez, k⟩ := res_look h
  split at ez
  · cases ez
    obtain ⟨a, vs, rfl, hp, c⟩ := At.tup_inv hx
    exact ⟨a, vs, rfl, .inr ⟨SqTA.sq hp, k H (.refl r) _ (.of (.tupL hp c))⟩⟩
  · obtain ⟨l, e1, rfl⟩ := Option.map_eq_some_iff.mp ez
    obtain ⟨a, vs, rfl, hp, c⟩ := r.seqL hx e1
    exact ⟨a, vs, rfl, .inl ⟨.of hp, fun p hpn => k _ (r.ext1 hpn) _ (.of (r.newTup hpn c))⟩⟩
end
section
variable {X : Cx} {W : WX} {x : Str} {e o a b : Expr} {p pos apos : Pos} {m mo ma mb : M D} {id T : String} {r : List V → Hp → VK → Prop}
def M.isS (d : D) : M D := M.look fun _ => match d with
  | .str z => some (.str z)
  | _ => none
def joinD (s : Sta) (o l : D) : Option D := match o with
  | .str a => match (match l with | .tup l => some l | l => l.seqL s) with
    | some ds => (asStrs ds).bind fun ys => if (ys.map (·.length)).sum + ys.length * a.length ≤ 16777216 then some (.str (Txt.join a ys)) else none
    | none => none
  | _ => none
def M.join (mo m : M D) : M D := do
  let o ← mo
  let o ← M.isS o
  let l ← m
  M.look fun s => joinD s o l
theorem res_isS {C : RC} {F : Addr → Prop} {μ : List Addr} {s : Sta} {σ : L2.St} {H : Hp} {d : D} {v : V} {α : Type} {k : D → M α} {K : α → List Addr → Sta → Hp → Prop} (r : Rep C F μ s σ H) (hv : AtX C F μ s σ H v d) (h : Res C W F μ s σ H (M.isS d >>= k) K) : ∃ z, d = .str z ∧ v = .str z ∧ Res C W F μ s σ H (k (.str z)) K := by
  obtain ⟨z, ez, kk⟩ := res_look h.split
  split at ez
  · cases ez
    exact ⟨_, rfl, at_str hv, kk H (.refl r)⟩
  · cases ez
theorem d_join (ho : PE X o (tD (XC X) W mo)) (he : PE X e (tD (XC X) W m)) (hs : starEach [e] X.env = [(false, eval e X.env)] := by rfl) (hbase : attributeBase o "join" X.env (eval o X.env) = eval o X.env := by rfl) (hline : (apos.endLine == pos.line) = true := by rfl) :
    PE X (.Call (.Attribute o "join" apos) [e] [] pos) (tD (XC X) W (M.join mo m)) := by
  refine peImp (pe_join ho he hs hbase hline) fun σ H Q ⟨F, μ, s, r, q⟩ => ⟨F, μ, s, r, q.split.imp fun d μ1 s1 H1 x1 h1 v hv => ?_⟩
  obtain ⟨z, rfl, rfl, h1⟩ := res_isS x1.rep hv h1
  refine ⟨⟨z, rfl⟩, F, μ1, s1, x1.rep, h1.split.imp fun l μ2 s2 H2 x2 h2 w hw => ?_⟩
  obtain ⟨t, et, k⟩ := res_look h2
  have fin : ∀ (a : Addr) (vs : List V) (ds : List D) (ys : List Str), w = .ref a → (SqL X.K H2 a vs ∨ SqT X.K H2 a vs) → AtL (XC X) (Tab F μ2 s2 σ) μ2 H2 vs ds → asStrs ds = some ys → (ys.map (·.length)).sum + ys.length * z.length ≤ 16777216 → t = .str (Txt.join z ys) →
      ∃ a p, ∃ ys : List Str, V.str z = .str a ∧ [w] = [.ref p] ∧ (SqL X.K H2 p (ys.map V.str) ∨ SqT X.K H2 p (ys.map V.str)) ∧ (ys.map (·.length)).sum + ys.length * a.length ≤ 16777216 ∧ Q (.str (Txt.join a ys)) H2 := by
    intro a vs ds ys e1 e2 e3 e4 e5 e6
    subst e1 e6
    have := asStrs_at e3 e4
    subst this
    exact ⟨z, a, ys, rfl, rfl, e2, e5, k H2 (.refl x2.rep) _ (.of (.str _))⟩
  unfold joinD at et
  simp only at et
  split at et
  · rename_i ds e1
    obtain ⟨ys, e2, e3⟩ := Option.bind_eq_some_iff.mp et
    split at e3
    · rename_i hl
      cases e3
      split at e1
      · cases e1
        obtain ⟨a, vs, rfl, hp, c⟩ := At.tup_inv hw
        exact fin a vs _ ys rfl (.inr (SqTA.sq hp)) c e2 hl rfl
      · obtain ⟨a, vs, rfl, hp, c⟩ := x2.rep.seqL hw e1
        exact fin a vs _ ys rfl (.inl (.of hp)) c e2 hl rfl
    · cases e3
  · cases et
/-! ### a module's constant -/
theorem d_gInt {i : Int} {t : Tok} (hg : Gl X x) (hm : X.mg x = some (.int i t)) (hd : (x == ("__debug__" : Str)) = false := by decide) : PE X (.Name x pos) (tD (XC X) W (M.lit (.int i))) := d_lit (pe_glob (v := .int i) hg hm ⟨t, rfl⟩ hd) fun _ _ _ => .int i
theorem d_gStr {z : Str} {t : Tok} (hg : Gl X x) (hm : X.mg x = some (.str z t)) (hd : (x == ("__debug__" : Str)) = false := by decide) : PE X (.Name x pos) (tD (XC X) W (M.lit (.str z))) := d_lit (pe_glob (v := .str z) hg hm ⟨t, rfl⟩ hd) fun _ _ _ => .str z
end
end Ms
/-! Ms17: facts of the head. -/
namespace Ms
open PySem PySem.Spec PyProof.Rows L2
def tyV (K : PySem.W.Frag) : Ty → Value
  | .b n => .type n
  | .x c => .ref (He.ga K c)
def oexB (K : PySem.W.Frag) (C : Addr) : Bool := (match K.lookup C with
  | some ⟨.type "type", _, .cls cd, sl⟩ => (match cd.mro, sl.toList with
    | .ref C' :: bm, [_, _, _, _, some (.builtin n), _] => C' == C && n == "ValueError.__new__" && !cd.hasDel && PySem.HandSPX.refsVE bm && cd.hasDict
    | _, _ => false)
  | _ => false) && (He.eqO (PySem.W.findIn K (.ref C) "__setattr__") (some (some (.builtin "object.__setattr__"))) && (decide (PySem.W.subIn K (.ref C) (.type "BaseException") = some true) && (decide (PySem.W.typeIn K (.ref C) = some (.type "type")) && PySem.W.keepIn K (.ref C))))
theorem oexB_ok {K : PySem.W.Frag} {C : Addr} (h : oexB K C = true) : OexC K C := by
  obtain ⟨q, h⟩ := He.ba h
  obtain ⟨h1, h⟩ := He.ba h
  obtain ⟨h2, h⟩ := He.ba h
  obtain ⟨h3, h4⟩ := He.ba h
  refine ⟨?_, He.eqO_ok h1, of_decide_eq_true h2, of_decide_eq_true h3, h4⟩
  split at q
  · rename_i dd cd sl ho
    split at q
    · rename_i C' bm k0 k1 k2 k3 n k5 hm hs
      simp only [Bool.and_eq_true, beq_iff_eq, Bool.not_eq_true'] at q
      obtain ⟨⟨⟨⟨rfl, rfl⟩, hdel⟩, ht⟩, hd⟩ := q
      obtain ⟨nm, bs, mro, ns, qn, hd, sn, sub, ab, col, del⟩ := cd
      dsimp only at hm hdel hd
      subst hm hdel hd
      have hsl : sl = #[k0, k1, k2, k3, some (.builtin "ValueError.__new__"), k5] := by
        obtain ⟨l⟩ := sl
        simp only at hs
        rw [hs]
      subst hsl
      exact ⟨nm, qn, ns, bs, bm, sn, sub, ab, col, dd, k0, k1, k2, k3, k5, ho, ht⟩
    · cases q
  · cases q
def excB (K : PySem.W.Frag) (D : Addr) : Bool := He.eqO (PySem.W.findIn K (.ref D) "__getattribute__") (some (some (.builtin "BaseException.__getattribute__"))) && (He.eqO (PySem.W.findIn K (.ref D) "__getattr__") (some none) && (decide (PySem.W.subIn K (.ref D) (.type "BaseException") = some true) &&
  (PySem.W.hasDictIn K D && (He.eqO (PySem.W.findIn K (.ref D) "__class__") (some (some (.builtin "object.__class__"))) && (He.eqO (PySem.W.specialIn K (.builtin "object.__class__") "__get__") (some (some (.builtin "getset_descriptor.__get__"))) &&
    (decide (PySem.W.takesIn K (.builtin "object.__class__") = some true) && decide (PySem.W.mroIn K D (.type "object") = some true)))))))
theorem excB_ok {K : PySem.W.Frag} {D : Addr} (h : excB K D = true) : ExcC K D := by
  obtain ⟨h1, h⟩ := He.ba h
  obtain ⟨h2, h⟩ := He.ba h
  obtain ⟨h3, h⟩ := He.ba h
  obtain ⟨h4, h⟩ := He.ba h
  obtain ⟨h5, h⟩ := He.ba h
  obtain ⟨h6, h⟩ := He.ba h
  obtain ⟨h7, h8⟩ := He.ba h
  exact ⟨He.eqO_ok h1, He.eqO_ok h2, of_decide_eq_true h3, h4, He.eqO_ok h5, He.eqO_ok h6, of_decide_eq_true h7, of_decide_eq_true h8⟩
inductive Fb where
  | f (a : He.Fa)
  | glos (xs : List Str)
  | frees (xs : List Str)
  | oex (x : Str)
  | ini (x fl : Str)
  | base (x : Str)
  | excs (xs : List Str)
  | xf (xs : List Str) (f : Str)
  | kt (u : Ty) (bs : List (String × Bool)) (xs : List (Str × Bool))
  | ktA (us : List Ty) (bs : List (String × Bool)) (xs : List (Str × Bool))
  | exm (u : Ty) (xs : List (Str × Bool))
def Fb.ok (K : PySem.W.Frag) : Fb → Bool
  | .f a => a.ok K
  | .glos xs => xs.all fun x => (He.Fa.glo x).ok K
  | .frees xs => xs.all fun x => (He.Fa.free x).ok K
  | .oex x => oexB K (He.ga K x)
  | .ini x fl => He.eqO (PySem.W.findIn K (.ref (He.ga K x)) "__init__") (some (some (.ref (He.ma K (He.ga K x) "__init__")))) && (decide (PySem.W.typeIn K (.ref (He.ma K (He.ga K x) "__init__")) = some (.type "function")) && He.eqO (PySem.W.findIn K (.ref (He.ga K x)) fl) (some none))
  | .base x => PySem.W.readsIn K (He.ga K x) (.type "type") && (He.eqO (PySem.W.specialIn K (.ref (He.ga K x)) "__getattribute__") (some (some (.builtin "type.__getattribute__"))) && (match PySem.W.findCls K (.ref (He.ga K x)) (.type "type") "__init__" with
    | some (.val (.builtin n)) => n == "ValueError.__init__"
    | _ => false))
  | .excs xs => xs.all fun x => excB K (He.ga K x)
  | .xf xs fl => xs.all fun x => xfB K (He.ga K x) && He.eqO (PySem.W.findIn K (.ref (He.ga K x)) fl) (some none)
  | .kt u bs xs => (bs.all fun q => decide (PySem.W.kitOne K (.type q.1) (tyV K u) = some q.2)) && xs.all fun q => decide (PySem.W.kitOne K (.ref (He.ga K q.1)) (tyV K u) = some q.2)
  | .ktA us bs xs => (bs.all fun q => decide (PySem.W.kitAny K (.type q.1) (us.map (tyV K)) = some q.2)) && xs.all fun q => decide (PySem.W.kitAny K (.ref (He.ga K q.1)) (us.map (tyV K)) = some q.2)
  | .exm u xs => xs.all fun q => decide (PySem.W.exmOne K (.ref (He.ga K q.1)) (tyV K u) = some q.2)
/-! ### the Hook -/
def obsM (fb : List Fb) (fn : List He.DefD) (K : PySem.W.Frag) : He.AlD := ((fb.all fun f => f.ok K) && fn.all fun d => d.ok K, fn.map fun d => He.fnW K d.at_)
def SaysM (fb : List Fb) (fn : List He.DefD) (K : PySem.W.Frag) : Prop := obsM fb fn K = He.valD fn
def asM (g : Addr → Option Obj) : Nat → List Addr
  | 0 => [mainGlobals, cStatics]
  | n + 1 => He.growD g (asM g n)
def obsMG (n : Nat) (fb : List Fb) (fn : List He.DefD) (g : Addr → Option Obj) : He.AlD := obsM fb fn (He.frG g (asM g n))
def hookM (n : Nat) (fb : List Fb) (fn : List He.DefD) : PySem.W.Hook where
  α := He.AlD
  obs := fun s => obsMG n fb fn s.heap.get?
  val := fun _ => He.valD fn
  says := fun _ h => ∃ K : PySem.W.Frag, K.In h ∧ SaysM fb fn K
  of := fun _ _ e => ⟨_, He.frG_in, e⟩
  keeps := fun _ _ _ ⟨K, hK, c⟩ k => ⟨K, PySem.W.Frag.In.keeps hK k, c⟩
theorem obsMG_eq {n : Nat} {fb : List Fb} {fn : List He.DefD} {g : Addr → Option Obj} {s : Shared} (h : ∀ a, g a = s.heap.get? a) : obsMG n fb fn g = (hookM n fb fn).obs s := by
  have e : g = s.heap.get? := funext h
  rw [e] <;> rfl
section
variable {fb : List Fb} {fn : List He.DefD} {K : PySem.W.Frag} {h : Heap} {mg : Str → Option Value} {x fl : Str}
theorem SaysM.fact (c : SaysM fb fn K) (i : Nat) {f : Fb} (h : fb[i]? = some f := by rfl) : f.ok K = true := by
  have c1 := (He.ba (show ((fb.all fun f => f.ok K) && fn.all fun d => d.ok K) = true from congrArg (fun z : He.AlD => z.1) c)).1
  exact List.all_eq_true.mp c1 f (List.mem_of_getElem? h)
theorem SaysM.def_ (c : SaysM fb fn K) (i : Nat) {d : He.DefD} (h : fn[i]? = some d := by rfl) : ∃ fd, FunD K d.name d.qual d.params d.body d.scope (d.dvs K) (d.kws K) (He.fAd K d.at_) fd := by
  have c2 := (He.ba (show ((fb.all fun f => f.ok K) && fn.all fun d => d.ok K) = true from congrArg (fun z : He.AlD => z.1) c)).2
  have e : fn.map (fun d => He.fnW K d.at_) = fn.map He.DefD.val := congrArg (fun z : He.AlD => z.2) c
  have e2 : (fn.map fun d => He.fnW K d.at_)[i]? = (fn.map He.DefD.val)[i]? := by rw [e]
  rw [List.getElem?_map, List.getElem?_map, h] at e2
  exact He.DefD.funD (Option.some.inj e2) (List.all_eq_true.mp c2 d (List.mem_of_getElem? h))
/-- what the walks lean on -/
structure Env (fb : List Fb) (fn : List He.DefD) (K : PySem.W.Frag) (mg : Str → Option Value) (base : Heap) : Prop where
  c : SaysM fb fn K
  h : ∃ h : Heap, K.In h ∧ h.Ns mainGlobals mg
variable {base : Heap}
theorem Env.glo (E : Env fb fn K mg base) (i : Nat) {xs : List Str} (hx : x ∈ xs) (h : fb[i]? = some (.glos xs) := by rfl) : mg x = some (.ref (He.ga K x)) := by
  obtain ⟨hp, X, G⟩ := E.h
  exact He.glo_ok X G (List.all_eq_true.mp (E.c.fact i h) x hx)
theorem Env.free (E : Env fb fn K mg base) (i : Nat) {xs : List Str} (hx : x ∈ xs) (h : fb[i]? = some (.frees xs) := by rfl) : mg x = none := by
  obtain ⟨hp, X, G⟩ := E.h
  exact He.free_ok X G (List.all_eq_true.mp (E.c.fact i h) x hx)
theorem Env.x0 (E : Env fb fn K mg base) (i j : Nat) {xs : List Str} (hx : x ∈ xs) (h : fb[i]? = some (.glos xs) := by rfl) (h2 : fb[j]? = some (.f (.exc x)) := by rfl) : X0 K mg x (He.ga K x) := by
  obtain ⟨h1, h2, h3, h4⟩ := He.exc_ok (E.c.fact j h2)
  exact ⟨E.glo i hx h, h1, h2, h3, h4⟩
theorem lookup_all {α : Type} {p : Str × α → Bool} : ∀ {l : List (Str × α)} {x : Str} {b : α}, l.all p = true → l.lookup x = some b → p (x, b) = true ∧ (x, b) ∈ l
  | [], _, _, _, e => by cases e
  | (y, c) :: l, x, b, h, e => by
    rw [List.all_cons, Bool.and_eq_true] at h
    rw [List.lookup_cons] at e
    split at e
    · rename_i hb
      cases e
      have := eq_of_beq hb
      subst this
      exact ⟨h.1, List.mem_cons_self⟩
    · obtain ⟨a, b⟩ := lookup_all h.2 e
      exact ⟨a, List.mem_cons_of_mem _ b⟩
theorem lookup_all' {α : Type} {p : String × α → Bool} : ∀ {l : List (String × α)} {x : String} {b : α}, l.all p = true → l.lookup x = some b → p (x, b) = true
  | [], _, _, _, e => by cases e
  | (y, c) :: l, x, b, h, e => by
    rw [List.all_cons, Bool.and_eq_true] at h
    rw [List.lookup_cons] at e
    split at e
    · rename_i hb
      cases e
      have := eq_of_beq hb
      subst this
      exact h.1
    · exact lookup_all' h.2 e
def ktOf (bs : List (String × Bool)) (xs : List (Str × Bool)) : Ty → Option Bool
  | .b n => bs.lookup n
  | .x c => xs.lookup c
theorem Env.kt (E : Env fb fn K mg base) (i j k : Nat) {xs ys : List Str} {u : Ty} {bs : List (String × Bool)} {cs : List (Str × Bool)} (hs : ∀ c ∈ cs, c.1 ∈ xs ∧ c.1 ∈ ys) (h : fb[i]? = some (.glos xs) := by rfl) (h2 : fb[j]? = some (.excs ys) := by rfl) (h3 : fb[k]? = some (.kt u bs cs) := by rfl) :
    KtOk K mg (fun t => PySem.W.kitOne K t (tyV K u)) (ktOf bs cs) := by
  obtain ⟨c1, c2⟩ := He.ba (show ((bs.all fun q => decide (PySem.W.kitOne K (.type q.1) (tyV K u) = some q.2)) && cs.all fun q => decide (PySem.W.kitOne K (.ref (He.ga K q.1)) (tyV K u) = some q.2)) = true from E.c.fact k h3)
  refine ⟨fun n b e => of_decide_eq_true (lookup_all' c1 e), fun c b A e g => ?_⟩
  obtain ⟨q, m⟩ := lookup_all c2 e
  rw [E.glo i (hs _ m).1 h] at g
  cases g
  exact ⟨of_decide_eq_true q, excB_ok (List.all_eq_true.mp (E.c.fact j h2) _ (hs _ m).2)⟩
theorem Env.ktA (E : Env fb fn K mg base) (i j k : Nat) {xs ys : List Str} {us : List Ty} {bs : List (String × Bool)} {cs : List (Str × Bool)} (hs : ∀ c ∈ cs, c.1 ∈ xs ∧ c.1 ∈ ys) (h : fb[i]? = some (.glos xs) := by rfl) (h2 : fb[j]? = some (.excs ys) := by rfl) (h3 : fb[k]? = some (.ktA us bs cs) := by rfl) :
    KtOk K mg (fun t => PySem.W.kitAny K t (us.map (tyV K))) (ktOf bs cs) := by
  obtain ⟨c1, c2⟩ := He.ba (show ((bs.all fun q => decide (PySem.W.kitAny K (.type q.1) (us.map (tyV K)) = some q.2)) && cs.all fun q => decide (PySem.W.kitAny K (.ref (He.ga K q.1)) (us.map (tyV K)) = some q.2)) = true from E.c.fact k h3)
  refine ⟨fun n b e => of_decide_eq_true (lookup_all' c1 e), fun c b A e g => ?_⟩
  obtain ⟨q, m⟩ := lookup_all c2 e
  rw [E.glo i (hs _ m).1 h] at g
  cases g
  exact ⟨of_decide_eq_true q, excB_ok (List.all_eq_true.mp (E.c.fact j h2) _ (hs _ m).2)⟩
theorem Env.exm (E : Env fb fn K mg base) (i k : Nat) {xs : List Str} {u : Ty} {cs : List (Str × Bool)} (hs : ∀ c ∈ cs, c.1 ∈ xs) (h : fb[i]? = some (.glos xs) := by rfl) (h3 : fb[k]? = some (.exm u cs) := by rfl) :
    ∀ c b A, cs.lookup c = some b → mg c = some (.ref A) → PySem.W.exmOne K (.ref A) (tyV K u) = some b := fun c b A e g => by
  obtain ⟨q, m⟩ := lookup_all (show (cs.all fun q => decide (PySem.W.exmOne K (.ref (He.ga K q.1)) (tyV K u) = some q.2)) = true from E.c.fact k h3) e
  rw [E.glo i (hs _ m) h] at g
  cases g
  exact of_decide_eq_true q
theorem Env.xf (E : Env fb fn K mg base) (i k : Nat) {xs ys : List Str} {f : Str} (hs : ∀ c ∈ ys, c ∈ xs) (h : fb[i]? = some (.glos xs) := by rfl) (h3 : fb[k]? = some (.xf ys f) := by rfl) : XfOk K mg f ys := by
  refine ⟨fun c hc A g => ?_⟩
  obtain ⟨q1, q2⟩ := He.ba (List.all_eq_true.mp (show (ys.all fun x => xfB K (He.ga K x) && He.eqO (PySem.W.findIn K (.ref (He.ga K x)) f) (some none)) = true from E.c.fact k h3) c hc)
  rw [E.glo i (hs c hc) h] at g
  cases g
  exact ⟨xfB_ok q1, He.eqO_ok q2⟩
theorem Env.base_ (E : Env fb fn K mg base) (i : Nat) (h : fb[i]? = some (.base x) := by rfl) : ClX.CRead K (He.ga K x) (.type "type") ∧ PySem.W.findCls K (.ref (He.ga K x)) (.type "type") "__init__" = some (.val (.builtin "ValueError.__init__")) := by
  obtain ⟨h1, h2⟩ := He.ba (E.c.fact i h)
  obtain ⟨h2, h3⟩ := He.ba h2
  refine ⟨⟨h1, He.eqO_ok h2⟩, ?_⟩
  split at h3
  · rename_i n e
    rw [e, eq_of_beq h3]
  · cases h3
theorem Env.ini (E : Env fb fn K mg base) (i : Nat) (h : fb[i]? = some (.ini x fl) := by rfl) : PySem.W.findIn K (.ref (He.ga K x)) "__init__" = some (some (.ref (He.ma K (He.ga K x) "__init__"))) ∧ PySem.W.typeIn K (.ref (He.ma K (He.ga K x) "__init__")) = some (.type "function") ∧ PySem.W.findIn K (.ref (He.ga K x)) fl = some none := by
  obtain ⟨h1, h2⟩ := He.ba (E.c.fact i h)
  obtain ⟨h2, h3⟩ := He.ba h2
  exact ⟨He.eqO_ok h1, of_decide_eq_true h2, He.eqO_ok h3⟩
theorem takes0 {X : Cx} : L2N.Takes X W0 := fun u s' ⟨_, _, _, _, _, _, _, _, _, _, _, _, _, _, _, _, h⟩ => h.elim
end
end Ms
namespace Pw
open PySem PySem.Spec PyProof.Rows L2 Ms
def top (i : Nat) : Stmt := PySem.Challenge.pw_spanloom_k46_records_as_texts.main.body.getD i (.Pass ⟨0, 0, 0, 0⟩)
def clsB : Stmt → List Stmt
  | .ClassDef _ _ _ b _ _ _ _ _ _ _ => b
  | _ => []
def inCls (i j : Nat) : Stmt := (clsB (top i)).getD j (.Pass ⟨0, 0, 0, 0⟩)
theorem rmOf {k : Nat} {A : Around} (hr : Room k A) : A.units + 200 < cLine := by have := hr.un; omega
theorem rmOfH {k : Nat} {A : Around} (hr : L2H.RoomH k A) : A.units + 200 < cLine := by have := hr.un; omega
theorem roomH_mark {k : Nat} {A : Around} {h : Option Value} (hr : Room k A) : L2H.RoomH k (A.mark h) := ⟨hr.dp, hr.un⟩
def locB (sc : Scope) (x : Str) : Bool := match sc.names.lookup x with
  | some .local => true
  | some .cell => true
  | _ => false
theorem locOf {sc : Scope} {x : Str} (h : locB sc x = true) : Loc sc x := by
  unfold locB at h
  split at h
  · exact .inl (by assumption)
  · exact .inr (by assumption)
  · cases h
theorem ownB {P : Program} {w : World} {K : PySem.W.Frag} {mg : Str → Option Value} {base : Heap} {N : List Str} {qual : Str} {scope : Scope} {f : Addr} {cdv : Value} {A : Around} {outer : List PySem.Env} {s : Shared} {H : Hp} {E : XK} :
    PassesOwn (model (XB P w K mg base N qual scope f cdv A outer s H E).prog (XB P w K mg base N qual scope f cdv A outer s H E).w) (XB P w K mg base N qual scope f cdv A outer s H E).A (XB P w K mg base N qual scope f cdv A outer s H E).env (XB P w K mg base N qual scope f cdv A outer s H E).xe := passes_of rfl
def pickP : List D → List D → D := fun ds _ => ds.headD .non
def pickK : List D → List D → D := fun _ es => es.headD .non
def pickN : List D → List D → D := fun _ _ => .non
def glos_0 : List Str := ["Twice", "Wanting", "NoText", "NoVersion", "NoWork", "TooLong", "NoPrices", "NoRecord", "NoRow", "NoSigns", "NoEnd", "NoLink", "NoName", "NoPlace", "Gainsaid", "NoAuthor", "NoBase", "NoDeed", "AskedError", "ToldError", "Crossed", "Forged", "LoomError", "is_whole", "is_within"]
def glos_1 : List Str := ["is_name", "is_span", "go_on", "long", "is_page", "is_apart", "is_ends", "is_id", "is_sign", "is_poured", "are_parents", "is_pour", "is_version", "is_link", "is_record", "number_of", "spans_text", "id_text", "record_text", "records_text", "span_of", "spans_of", "id_of", "ids_of", "parts_of"]
def glos_2 : List Str := ["record_of", "read_spans", "read_record", "read_records", "_law_bag", "_law_take", "_law_of", "_law_name", "_law_kinds", "_law_signs", "_law_page_of", "_law_span", "_law_page", "_law_ends_of", "_law_some_spans", "_law_text", "_law_id", "_law_some_ends", "_law_pool", "_law_record", "_law_spans_line", "_law_id_line", "_law_line", "_law_no_text", "law"]
def glos : List Str := glos_0 ++ glos_1 ++ glos_2
def frees_0 : List Str := ["int", "isinstance", "bool", "str", "len", "all", "tuple", "sum", "zip", "any", "ord", "enumerate", "abs", "range", "ValueError", "min", "sorted", "set"]
def frees : List Str := frees_0
def excs_0 : List Str := ["LoomError", "ToldError", "AskedError", "NoRecord", "NoName", "NoRow", "NoPrices", "NoDeed", "NoEnd", "Twice", "NoText", "Forged", "Gainsaid", "TooLong", "NoSigns", "NoLink", "NoBase", "NoPlace", "Crossed", "Wanting", "NoWork", "NoVersion", "NoAuthor"]
def excs : List Str := excs_0
def xs_line : List Str := ["NoText"]
def kb_int : List (String × Bool) := [("int", true), ("bool", true), ("str", false), ("tuple", false), ("list", false), ("dict", false), ("NoneType", false)]
def kx_int : List (Str × Bool) := [("LoomError", false), ("ToldError", false), ("AskedError", false), ("NoRecord", false), ("NoName", false), ("NoRow", false), ("NoPrices", false), ("NoDeed", false), ("NoEnd", false), ("Twice", false), ("NoText", false), ("Forged", false), ("Gainsaid", false), ("TooLong", false), ("NoSigns", false), ("NoLink", false), ("NoBase", false), ("NoPlace", false), ("Crossed", false), ("Wanting", false), ("NoWork", false), ("NoVersion", false), ("NoAuthor", false)]
def kf_int : Ty → Option Bool := ktOf kb_int kx_int
def kb_bool : List (String × Bool) := [("int", false), ("bool", true), ("str", false), ("tuple", false), ("list", false), ("dict", false), ("NoneType", false)]
def kx_bool : List (Str × Bool) := [("LoomError", false), ("ToldError", false), ("AskedError", false), ("NoRecord", false), ("NoName", false), ("NoRow", false), ("NoPrices", false), ("NoDeed", false), ("NoEnd", false), ("Twice", false), ("NoText", false), ("Forged", false), ("Gainsaid", false), ("TooLong", false), ("NoSigns", false), ("NoLink", false), ("NoBase", false), ("NoPlace", false), ("Crossed", false), ("Wanting", false), ("NoWork", false), ("NoVersion", false), ("NoAuthor", false)]
def kf_bool : Ty → Option Bool := ktOf kb_bool kx_bool
def kb_str : List (String × Bool) := [("int", false), ("bool", false), ("str", true), ("tuple", false), ("list", false), ("dict", false), ("NoneType", false)]
def kx_str : List (Str × Bool) := [("LoomError", false), ("ToldError", false), ("AskedError", false), ("NoRecord", false), ("NoName", false), ("NoRow", false), ("NoPrices", false), ("NoDeed", false), ("NoEnd", false), ("Twice", false), ("NoText", false), ("Forged", false), ("Gainsaid", false), ("TooLong", false), ("NoSigns", false), ("NoLink", false), ("NoBase", false), ("NoPlace", false), ("Crossed", false), ("Wanting", false), ("NoWork", false), ("NoVersion", false), ("NoAuthor", false)]
def kf_str : Ty → Option Bool := ktOf kb_str kx_str
def kb_tuple : List (String × Bool) := [("int", false), ("bool", false), ("str", false), ("tuple", true), ("list", false), ("dict", false), ("NoneType", false)]
def kx_tuple : List (Str × Bool) := [("LoomError", false), ("ToldError", false), ("AskedError", false), ("NoRecord", false), ("NoName", false), ("NoRow", false), ("NoPrices", false), ("NoDeed", false), ("NoEnd", false), ("Twice", false), ("NoText", false), ("Forged", false), ("Gainsaid", false), ("TooLong", false), ("NoSigns", false), ("NoLink", false), ("NoBase", false), ("NoPlace", false), ("Crossed", false), ("Wanting", false), ("NoWork", false), ("NoVersion", false), ("NoAuthor", false)]
def kf_tuple : Ty → Option Bool := ktOf kb_tuple kx_tuple
def kb_Twice : List (String × Bool) := [("int", false), ("bool", false), ("str", false), ("tuple", false), ("list", false), ("dict", false), ("NoneType", false)]
def kx_Twice : List (Str × Bool) := [("LoomError", false), ("ToldError", false), ("AskedError", false), ("NoRecord", false), ("NoName", false), ("NoRow", false), ("NoPrices", false), ("NoDeed", false), ("NoEnd", false), ("Twice", true), ("NoText", false), ("Forged", false), ("Gainsaid", false), ("TooLong", false), ("NoSigns", false), ("NoLink", false), ("NoBase", false), ("NoPlace", false), ("Crossed", false), ("Wanting", false), ("NoWork", false), ("NoVersion", false), ("NoAuthor", false)]
def kf_Twice : Ty → Option Bool := ktOf kb_Twice kx_Twice
def kb_Wanting : List (String × Bool) := [("int", false), ("bool", false), ("str", false), ("tuple", false), ("list", false), ("dict", false), ("NoneType", false)]
def kx_Wanting : List (Str × Bool) := [("LoomError", false), ("ToldError", false), ("AskedError", false), ("NoRecord", false), ("NoName", false), ("NoRow", false), ("NoPrices", false), ("NoDeed", false), ("NoEnd", false), ("Twice", false), ("NoText", false), ("Forged", false), ("Gainsaid", false), ("TooLong", false), ("NoSigns", false), ("NoLink", false), ("NoBase", false), ("NoPlace", false), ("Crossed", false), ("Wanting", true), ("NoWork", false), ("NoVersion", false), ("NoAuthor", false)]
def kf_Wanting : Ty → Option Bool := ktOf kb_Wanting kx_Wanting
def kb_ValueError : List (String × Bool) := [("int", false), ("bool", false), ("str", false), ("tuple", false), ("list", false), ("dict", false), ("NoneType", false)]
def kx_ValueError : List (Str × Bool) := [("LoomError", true), ("ToldError", true), ("AskedError", true), ("NoRecord", true), ("NoName", true), ("NoRow", true), ("NoPrices", true), ("NoDeed", true), ("NoEnd", true), ("Twice", true), ("NoText", true), ("Forged", true), ("Gainsaid", true), ("TooLong", true), ("NoSigns", true), ("NoLink", true), ("NoBase", true), ("NoPlace", true), ("Crossed", true), ("Wanting", true), ("NoWork", true), ("NoVersion", true), ("NoAuthor", true)]
def kf_ValueError : Ty → Option Bool := ktOf kb_ValueError kx_ValueError
def kb_NoText : List (String × Bool) := [("int", false), ("bool", false), ("str", false), ("tuple", false), ("list", false), ("dict", false), ("NoneType", false)]
def kx_NoText : List (Str × Bool) := [("LoomError", false), ("ToldError", false), ("AskedError", false), ("NoRecord", false), ("NoName", false), ("NoRow", false), ("NoPrices", false), ("NoDeed", false), ("NoEnd", false), ("Twice", false), ("NoText", true), ("Forged", false), ("Gainsaid", false), ("TooLong", false), ("NoSigns", false), ("NoLink", false), ("NoBase", false), ("NoPlace", false), ("Crossed", false), ("Wanting", false), ("NoWork", false), ("NoVersion", false), ("NoAuthor", false)]
def kf_NoText : Ty → Option Bool := ktOf kb_NoText kx_NoText
def kb_NoVersion : List (String × Bool) := [("int", false), ("bool", false), ("str", false), ("tuple", false), ("list", false), ("dict", false), ("NoneType", false)]
def kx_NoVersion : List (Str × Bool) := [("LoomError", false), ("ToldError", false), ("AskedError", false), ("NoRecord", false), ("NoName", false), ("NoRow", false), ("NoPrices", false), ("NoDeed", false), ("NoEnd", false), ("Twice", false), ("NoText", false), ("Forged", false), ("Gainsaid", false), ("TooLong", false), ("NoSigns", false), ("NoLink", false), ("NoBase", false), ("NoPlace", false), ("Crossed", false), ("Wanting", false), ("NoWork", false), ("NoVersion", true), ("NoAuthor", false)]
def kf_NoVersion : Ty → Option Bool := ktOf kb_NoVersion kx_NoVersion
def kb_NoWork : List (String × Bool) := [("int", false), ("bool", false), ("str", false), ("tuple", false), ("list", false), ("dict", false), ("NoneType", false)]
def kx_NoWork : List (Str × Bool) := [("LoomError", false), ("ToldError", false), ("AskedError", false), ("NoRecord", false), ("NoName", false), ("NoRow", false), ("NoPrices", false), ("NoDeed", false), ("NoEnd", false), ("Twice", false), ("NoText", false), ("Forged", false), ("Gainsaid", false), ("TooLong", false), ("NoSigns", false), ("NoLink", false), ("NoBase", false), ("NoPlace", false), ("Crossed", false), ("Wanting", false), ("NoWork", true), ("NoVersion", false), ("NoAuthor", false)]
def kf_NoWork : Ty → Option Bool := ktOf kb_NoWork kx_NoWork
def kb_TooLong : List (String × Bool) := [("int", false), ("bool", false), ("str", false), ("tuple", false), ("list", false), ("dict", false), ("NoneType", false)]
def kx_TooLong : List (Str × Bool) := [("LoomError", false), ("ToldError", false), ("AskedError", false), ("NoRecord", false), ("NoName", false), ("NoRow", false), ("NoPrices", false), ("NoDeed", false), ("NoEnd", false), ("Twice", false), ("NoText", false), ("Forged", false), ("Gainsaid", false), ("TooLong", true), ("NoSigns", false), ("NoLink", false), ("NoBase", false), ("NoPlace", false), ("Crossed", false), ("Wanting", false), ("NoWork", false), ("NoVersion", false), ("NoAuthor", false)]
def kf_TooLong : Ty → Option Bool := ktOf kb_TooLong kx_TooLong
def kb_NoPrices : List (String × Bool) := [("int", false), ("bool", false), ("str", false), ("tuple", false), ("list", false), ("dict", false), ("NoneType", false)]
def kx_NoPrices : List (Str × Bool) := [("LoomError", false), ("ToldError", false), ("AskedError", false), ("NoRecord", false), ("NoName", false), ("NoRow", false), ("NoPrices", true), ("NoDeed", false), ("NoEnd", false), ("Twice", false), ("NoText", false), ("Forged", false), ("Gainsaid", false), ("TooLong", false), ("NoSigns", false), ("NoLink", false), ("NoBase", false), ("NoPlace", false), ("Crossed", false), ("Wanting", false), ("NoWork", false), ("NoVersion", false), ("NoAuthor", false)]
def kf_NoPrices : Ty → Option Bool := ktOf kb_NoPrices kx_NoPrices
def kb_NoRecord : List (String × Bool) := [("int", false), ("bool", false), ("str", false), ("tuple", false), ("list", false), ("dict", false), ("NoneType", false)]
def kx_NoRecord : List (Str × Bool) := [("LoomError", false), ("ToldError", false), ("AskedError", false), ("NoRecord", true), ("NoName", false), ("NoRow", false), ("NoPrices", false), ("NoDeed", false), ("NoEnd", false), ("Twice", false), ("NoText", false), ("Forged", false), ("Gainsaid", false), ("TooLong", false), ("NoSigns", false), ("NoLink", false), ("NoBase", false), ("NoPlace", false), ("Crossed", false), ("Wanting", false), ("NoWork", false), ("NoVersion", false), ("NoAuthor", false)]
def kf_NoRecord : Ty → Option Bool := ktOf kb_NoRecord kx_NoRecord
def kb_NoRow : List (String × Bool) := [("int", false), ("bool", false), ("str", false), ("tuple", false), ("list", false), ("dict", false), ("NoneType", false)]
def kx_NoRow : List (Str × Bool) := [("LoomError", false), ("ToldError", false), ("AskedError", false), ("NoRecord", false), ("NoName", false), ("NoRow", true), ("NoPrices", false), ("NoDeed", false), ("NoEnd", false), ("Twice", false), ("NoText", false), ("Forged", false), ("Gainsaid", false), ("TooLong", false), ("NoSigns", false), ("NoLink", false), ("NoBase", false), ("NoPlace", false), ("Crossed", false), ("Wanting", false), ("NoWork", false), ("NoVersion", false), ("NoAuthor", false)]
def kf_NoRow : Ty → Option Bool := ktOf kb_NoRow kx_NoRow
def kb_NoSigns : List (String × Bool) := [("int", false), ("bool", false), ("str", false), ("tuple", false), ("list", false), ("dict", false), ("NoneType", false)]
def kx_NoSigns : List (Str × Bool) := [("LoomError", false), ("ToldError", false), ("AskedError", false), ("NoRecord", false), ("NoName", false), ("NoRow", false), ("NoPrices", false), ("NoDeed", false), ("NoEnd", false), ("Twice", false), ("NoText", false), ("Forged", false), ("Gainsaid", false), ("TooLong", false), ("NoSigns", true), ("NoLink", false), ("NoBase", false), ("NoPlace", false), ("Crossed", false), ("Wanting", false), ("NoWork", false), ("NoVersion", false), ("NoAuthor", false)]
def kf_NoSigns : Ty → Option Bool := ktOf kb_NoSigns kx_NoSigns
def kb_NoEnd : List (String × Bool) := [("int", false), ("bool", false), ("str", false), ("tuple", false), ("list", false), ("dict", false), ("NoneType", false)]
def kx_NoEnd : List (Str × Bool) := [("LoomError", false), ("ToldError", false), ("AskedError", false), ("NoRecord", false), ("NoName", false), ("NoRow", false), ("NoPrices", false), ("NoDeed", false), ("NoEnd", true), ("Twice", false), ("NoText", false), ("Forged", false), ("Gainsaid", false), ("TooLong", false), ("NoSigns", false), ("NoLink", false), ("NoBase", false), ("NoPlace", false), ("Crossed", false), ("Wanting", false), ("NoWork", false), ("NoVersion", false), ("NoAuthor", false)]
def kf_NoEnd : Ty → Option Bool := ktOf kb_NoEnd kx_NoEnd
def kb_NoLink : List (String × Bool) := [("int", false), ("bool", false), ("str", false), ("tuple", false), ("list", false), ("dict", false), ("NoneType", false)]
def kx_NoLink : List (Str × Bool) := [("LoomError", false), ("ToldError", false), ("AskedError", false), ("NoRecord", false), ("NoName", false), ("NoRow", false), ("NoPrices", false), ("NoDeed", false), ("NoEnd", false), ("Twice", false), ("NoText", false), ("Forged", false), ("Gainsaid", false), ("TooLong", false), ("NoSigns", false), ("NoLink", true), ("NoBase", false), ("NoPlace", false), ("Crossed", false), ("Wanting", false), ("NoWork", false), ("NoVersion", false), ("NoAuthor", false)]
def kf_NoLink : Ty → Option Bool := ktOf kb_NoLink kx_NoLink
def kb_NoName : List (String × Bool) := [("int", false), ("bool", false), ("str", false), ("tuple", false), ("list", false), ("dict", false), ("NoneType", false)]
def kx_NoName : List (Str × Bool) := [("LoomError", false), ("ToldError", false), ("AskedError", false), ("NoRecord", false), ("NoName", true), ("NoRow", false), ("NoPrices", false), ("NoDeed", false), ("NoEnd", false), ("Twice", false), ("NoText", false), ("Forged", false), ("Gainsaid", false), ("TooLong", false), ("NoSigns", false), ("NoLink", false), ("NoBase", false), ("NoPlace", false), ("Crossed", false), ("Wanting", false), ("NoWork", false), ("NoVersion", false), ("NoAuthor", false)]
def kf_NoName : Ty → Option Bool := ktOf kb_NoName kx_NoName
def kb_NoPlace : List (String × Bool) := [("int", false), ("bool", false), ("str", false), ("tuple", false), ("list", false), ("dict", false), ("NoneType", false)]
def kx_NoPlace : List (Str × Bool) := [("LoomError", false), ("ToldError", false), ("AskedError", false), ("NoRecord", false), ("NoName", false), ("NoRow", false), ("NoPrices", false), ("NoDeed", false), ("NoEnd", false), ("Twice", false), ("NoText", false), ("Forged", false), ("Gainsaid", false), ("TooLong", false), ("NoSigns", false), ("NoLink", false), ("NoBase", false), ("NoPlace", true), ("Crossed", false), ("Wanting", false), ("NoWork", false), ("NoVersion", false), ("NoAuthor", false)]
def kf_NoPlace : Ty → Option Bool := ktOf kb_NoPlace kx_NoPlace
def kb_Gainsaid : List (String × Bool) := [("int", false), ("bool", false), ("str", false), ("tuple", false), ("list", false), ("dict", false), ("NoneType", false)]
def kx_Gainsaid : List (Str × Bool) := [("LoomError", false), ("ToldError", false), ("AskedError", false), ("NoRecord", false), ("NoName", false), ("NoRow", false), ("NoPrices", false), ("NoDeed", false), ("NoEnd", false), ("Twice", false), ("NoText", false), ("Forged", false), ("Gainsaid", true), ("TooLong", false), ("NoSigns", false), ("NoLink", false), ("NoBase", false), ("NoPlace", false), ("Crossed", false), ("Wanting", false), ("NoWork", false), ("NoVersion", false), ("NoAuthor", false)]
def kf_Gainsaid : Ty → Option Bool := ktOf kb_Gainsaid kx_Gainsaid
def kb_NoAuthor : List (String × Bool) := [("int", false), ("bool", false), ("str", false), ("tuple", false), ("list", false), ("dict", false), ("NoneType", false)]
def kx_NoAuthor : List (Str × Bool) := [("LoomError", false), ("ToldError", false), ("AskedError", false), ("NoRecord", false), ("NoName", false), ("NoRow", false), ("NoPrices", false), ("NoDeed", false), ("NoEnd", false), ("Twice", false), ("NoText", false), ("Forged", false), ("Gainsaid", false), ("TooLong", false), ("NoSigns", false), ("NoLink", false), ("NoBase", false), ("NoPlace", false), ("Crossed", false), ("Wanting", false), ("NoWork", false), ("NoVersion", false), ("NoAuthor", true)]
def kf_NoAuthor : Ty → Option Bool := ktOf kb_NoAuthor kx_NoAuthor
def kb_NoBase : List (String × Bool) := [("int", false), ("bool", false), ("str", false), ("tuple", false), ("list", false), ("dict", false), ("NoneType", false)]
def kx_NoBase : List (Str × Bool) := [("LoomError", false), ("ToldError", false), ("AskedError", false), ("NoRecord", false), ("NoName", false), ("NoRow", false), ("NoPrices", false), ("NoDeed", false), ("NoEnd", false), ("Twice", false), ("NoText", false), ("Forged", false), ("Gainsaid", false), ("TooLong", false), ("NoSigns", false), ("NoLink", false), ("NoBase", true), ("NoPlace", false), ("Crossed", false), ("Wanting", false), ("NoWork", false), ("NoVersion", false), ("NoAuthor", false)]
def kf_NoBase : Ty → Option Bool := ktOf kb_NoBase kx_NoBase
def kb_NoDeed : List (String × Bool) := [("int", false), ("bool", false), ("str", false), ("tuple", false), ("list", false), ("dict", false), ("NoneType", false)]
def kx_NoDeed : List (Str × Bool) := [("LoomError", false), ("ToldError", false), ("AskedError", false), ("NoRecord", false), ("NoName", false), ("NoRow", false), ("NoPrices", false), ("NoDeed", true), ("NoEnd", false), ("Twice", false), ("NoText", false), ("Forged", false), ("Gainsaid", false), ("TooLong", false), ("NoSigns", false), ("NoLink", false), ("NoBase", false), ("NoPlace", false), ("Crossed", false), ("Wanting", false), ("NoWork", false), ("NoVersion", false), ("NoAuthor", false)]
def kf_NoDeed : Ty → Option Bool := ktOf kb_NoDeed kx_NoDeed
def kb_AskedError : List (String × Bool) := [("int", false), ("bool", false), ("str", false), ("tuple", false), ("list", false), ("dict", false), ("NoneType", false)]
def kx_AskedError : List (Str × Bool) := [("LoomError", false), ("ToldError", false), ("AskedError", true), ("NoRecord", false), ("NoName", false), ("NoRow", false), ("NoPrices", false), ("NoDeed", false), ("NoEnd", false), ("Twice", false), ("NoText", false), ("Forged", false), ("Gainsaid", false), ("TooLong", true), ("NoSigns", true), ("NoLink", true), ("NoBase", true), ("NoPlace", true), ("Crossed", true), ("Wanting", true), ("NoWork", true), ("NoVersion", true), ("NoAuthor", true)]
def kf_AskedError : Ty → Option Bool := ktOf kb_AskedError kx_AskedError
def kb_ToldError : List (String × Bool) := [("int", false), ("bool", false), ("str", false), ("tuple", false), ("list", false), ("dict", false), ("NoneType", false)]
def kx_ToldError : List (Str × Bool) := [("LoomError", false), ("ToldError", true), ("AskedError", false), ("NoRecord", true), ("NoName", true), ("NoRow", true), ("NoPrices", true), ("NoDeed", true), ("NoEnd", true), ("Twice", true), ("NoText", true), ("Forged", true), ("Gainsaid", true), ("TooLong", false), ("NoSigns", false), ("NoLink", false), ("NoBase", false), ("NoPlace", false), ("Crossed", false), ("Wanting", false), ("NoWork", false), ("NoVersion", false), ("NoAuthor", false)]
def kf_ToldError : Ty → Option Bool := ktOf kb_ToldError kx_ToldError
def kb_Crossed : List (String × Bool) := [("int", false), ("bool", false), ("str", false), ("tuple", false), ("list", false), ("dict", false), ("NoneType", false)]
def kx_Crossed : List (Str × Bool) := [("LoomError", false), ("ToldError", false), ("AskedError", false), ("NoRecord", false), ("NoName", false), ("NoRow", false), ("NoPrices", false), ("NoDeed", false), ("NoEnd", false), ("Twice", false), ("NoText", false), ("Forged", false), ("Gainsaid", false), ("TooLong", false), ("NoSigns", false), ("NoLink", false), ("NoBase", false), ("NoPlace", false), ("Crossed", true), ("Wanting", false), ("NoWork", false), ("NoVersion", false), ("NoAuthor", false)]
def kf_Crossed : Ty → Option Bool := ktOf kb_Crossed kx_Crossed
def kb_Forged : List (String × Bool) := [("int", false), ("bool", false), ("str", false), ("tuple", false), ("list", false), ("dict", false), ("NoneType", false)]
def kx_Forged : List (Str × Bool) := [("LoomError", false), ("ToldError", false), ("AskedError", false), ("NoRecord", false), ("NoName", false), ("NoRow", false), ("NoPrices", false), ("NoDeed", false), ("NoEnd", false), ("Twice", false), ("NoText", false), ("Forged", true), ("Gainsaid", false), ("TooLong", false), ("NoSigns", false), ("NoLink", false), ("NoBase", false), ("NoPlace", false), ("Crossed", false), ("Wanting", false), ("NoWork", false), ("NoVersion", false), ("NoAuthor", false)]
def kf_Forged : Ty → Option Bool := ktOf kb_Forged kx_Forged
def ex_NoText : List (Str × Bool) := [("LoomError", false), ("ToldError", false), ("AskedError", false), ("NoRecord", false), ("NoName", false), ("NoRow", false), ("NoPrices", false), ("NoDeed", false), ("NoEnd", false), ("Twice", false), ("NoText", true), ("Forged", false), ("Gainsaid", false), ("TooLong", false), ("NoSigns", false), ("NoLink", false), ("NoBase", false), ("NoPlace", false), ("Crossed", false), ("Wanting", false), ("NoWork", false), ("NoVersion", false), ("NoAuthor", false)]
def ec_NoText (x : Str) : Option Bool := ex_NoText.lookup x
def fb : List Fb := [.glos glos, .frees frees, .excs excs, .f (.exc "LoomError"), .f (.exc "ToldError"), .f (.exc "AskedError"), .f (.exc "NoRecord"), .f (.exc "NoName"), .f (.exc "NoRow"), .f (.exc "NoPrices"), .f (.exc "NoDeed"), .f (.exc "NoEnd"), .f (.exc "Twice"), .f (.exc "TooLong"), .f (.exc "NoSigns"), .f (.exc "NoLink"), .f (.exc "NoBase"), .base "AskedError", .base "ToldError", .oex "NoText", .ini "NoText" "line", .oex "Forged", .ini "Forged" "name", .oex "Gainsaid", .ini "Gainsaid" "record", .oex "NoPlace", .ini "NoPlace" "at", .oex "Crossed", .ini "Crossed" "which", .oex "Wanting", .ini "Wanting" "ends", .oex "NoWork", .ini "NoWork" "work", .oex "NoVersion", .ini "NoVersion" "which", .oex "NoAuthor", .ini "NoAuthor" "name", .xf xs_line "line", .f (.str "LETTERS" "abcdefghijklmnopqrstuvwxyz"), .f (.int "POOL" 1000000), .f (.int "MOST_SIGNS" 2000), .f (.int "MOST_SPANS" 60), .f (.int "MOST_NUMBER" 999999), .f (.int "FIRST_SIGN" 32), .f (.int "LAST_SIGN" 126), .f (.int "MOST_POURED" 200), .f (.int "MOST_PARENTS" 2), .f (.int "MOST_FIGURES" 7), .f (.str "FIGURES" "0123456789"), .f (.str "NONE" "-"), .kt (.b "int") kb_int kx_int, .kt (.b "bool") kb_bool kx_bool, .kt (.b "str") kb_str kx_str, .kt (.b "tuple") kb_tuple kx_tuple, .kt (.x "Twice") kb_Twice kx_Twice, .kt (.x "Wanting") kb_Wanting kx_Wanting, .kt (.b "ValueError") kb_ValueError kx_ValueError, .kt (.x "NoText") kb_NoText kx_NoText, .kt (.x "NoVersion") kb_NoVersion kx_NoVersion, .kt (.x "NoWork") kb_NoWork kx_NoWork, .kt (.x "TooLong") kb_TooLong kx_TooLong, .kt (.x "NoPrices") kb_NoPrices kx_NoPrices, .kt (.x "NoRecord") kb_NoRecord kx_NoRecord, .kt (.x "NoRow") kb_NoRow kx_NoRow, .kt (.x "NoSigns") kb_NoSigns kx_NoSigns, .kt (.x "NoEnd") kb_NoEnd kx_NoEnd, .kt (.x "NoLink") kb_NoLink kx_NoLink, .kt (.x "NoName") kb_NoName kx_NoName, .kt (.x "NoPlace") kb_NoPlace kx_NoPlace, .kt (.x "Gainsaid") kb_Gainsaid kx_Gainsaid, .kt (.x "NoAuthor") kb_NoAuthor kx_NoAuthor, .kt (.x "NoBase") kb_NoBase kx_NoBase, .kt (.x "NoDeed") kb_NoDeed kx_NoDeed, .kt (.x "AskedError") kb_AskedError kx_AskedError, .kt (.x "ToldError") kb_ToldError kx_ToldError, .kt (.x "Crossed") kb_Crossed kx_Crossed, .kt (.x "Forged") kb_Forged kx_Forged, .exm (.x "NoText") ex_NoText]
abbrev s_NoText : Stmt := inCls 11 0
def d_NoText : He.DefD := ⟨("NoText", some "__init__"), "__init__", "NoText.__init__", defArgs s_NoText, defBody s_NoText, defScope s_NoText, [.non], []⟩
abbrev s_Forged : Stmt := inCls 12 0
def d_Forged : He.DefD := ⟨("Forged", some "__init__"), "__init__", "Forged.__init__", defArgs s_Forged, defBody s_Forged, defScope s_Forged, [], []⟩
abbrev s_Gainsaid : Stmt := inCls 13 0
def d_Gainsaid : He.DefD := ⟨("Gainsaid", some "__init__"), "__init__", "Gainsaid.__init__", defArgs s_Gainsaid, defBody s_Gainsaid, defScope s_Gainsaid, [], []⟩
abbrev s_NoPlace : Stmt := inCls 18 0
def d_NoPlace : He.DefD := ⟨("NoPlace", some "__init__"), "__init__", "NoPlace.__init__", defArgs s_NoPlace, defBody s_NoPlace, defScope s_NoPlace, [], []⟩
abbrev s_Crossed : Stmt := inCls 19 0
def d_Crossed : He.DefD := ⟨("Crossed", some "__init__"), "__init__", "Crossed.__init__", defArgs s_Crossed, defBody s_Crossed, defScope s_Crossed, [], []⟩
abbrev s_Wanting : Stmt := inCls 20 0
def d_Wanting : He.DefD := ⟨("Wanting", some "__init__"), "__init__", "Wanting.__init__", defArgs s_Wanting, defBody s_Wanting, defScope s_Wanting, [], []⟩
abbrev s_NoWork : Stmt := inCls 21 0
def d_NoWork : He.DefD := ⟨("NoWork", some "__init__"), "__init__", "NoWork.__init__", defArgs s_NoWork, defBody s_NoWork, defScope s_NoWork, [], []⟩
abbrev s_NoVersion : Stmt := inCls 22 0
def d_NoVersion : He.DefD := ⟨("NoVersion", some "__init__"), "__init__", "NoVersion.__init__", defArgs s_NoVersion, defBody s_NoVersion, defScope s_NoVersion, [], []⟩
abbrev s_NoAuthor : Stmt := inCls 23 0
def d_NoAuthor : He.DefD := ⟨("NoAuthor", some "__init__"), "__init__", "NoAuthor.__init__", defArgs s_NoAuthor, defBody s_NoAuthor, defScope s_NoAuthor, [], []⟩
abbrev s_is_whole : Stmt := top 29
def d_is_whole : He.DefD := ⟨("is_whole", none), "is_whole", "is_whole", defArgs s_is_whole, defBody s_is_whole, defScope s_is_whole, [], []⟩
abbrev s_is_within : Stmt := top 30
def d_is_within : He.DefD := ⟨("is_within", none), "is_within", "is_within", defArgs s_is_within, defBody s_is_within, defScope s_is_within, [], []⟩
abbrev s_is_name : Stmt := top 31
def d_is_name : He.DefD := ⟨("is_name", none), "is_name", "is_name", defArgs s_is_name, defBody s_is_name, defScope s_is_name, [], []⟩
abbrev s_is_span : Stmt := top 32
def d_is_span : He.DefD := ⟨("is_span", none), "is_span", "is_span", defArgs s_is_span, defBody s_is_span, defScope s_is_span, [], []⟩
abbrev s_go_on : Stmt := top 33
def d_go_on : He.DefD := ⟨("go_on", none), "go_on", "go_on", defArgs s_go_on, defBody s_go_on, defScope s_go_on, [], []⟩
abbrev s_long : Stmt := top 34
def d_long : He.DefD := ⟨("long", none), "long", "long", defArgs s_long, defBody s_long, defScope s_long, [], []⟩
abbrev s_is_page : Stmt := top 35
def d_is_page : He.DefD := ⟨("is_page", none), "is_page", "is_page", defArgs s_is_page, defBody s_is_page, defScope s_is_page, [], []⟩
abbrev s_is_apart : Stmt := top 37
def d_is_apart : He.DefD := ⟨("is_apart", none), "is_apart", "is_apart", defArgs s_is_apart, defBody s_is_apart, defScope s_is_apart, [], []⟩
abbrev s_is_ends : Stmt := top 38
def d_is_ends : He.DefD := ⟨("is_ends", none), "is_ends", "is_ends", defArgs s_is_ends, defBody s_is_ends, defScope s_is_ends, [], []⟩
abbrev s_is_id : Stmt := top 45
def d_is_id : He.DefD := ⟨("is_id", none), "is_id", "is_id", defArgs s_is_id, defBody s_is_id, defScope s_is_id, [], []⟩
abbrev s_is_sign : Stmt := top 46
def d_is_sign : He.DefD := ⟨("is_sign", none), "is_sign", "is_sign", defArgs s_is_sign, defBody s_is_sign, defScope s_is_sign, [], []⟩
abbrev s_is_poured : Stmt := top 47
def d_is_poured : He.DefD := ⟨("is_poured", none), "is_poured", "is_poured", defArgs s_is_poured, defBody s_is_poured, defScope s_is_poured, [], []⟩
abbrev s_are_parents : Stmt := top 48
def d_are_parents : He.DefD := ⟨("are_parents", none), "are_parents", "are_parents", defArgs s_are_parents, defBody s_are_parents, defScope s_are_parents, [], []⟩
abbrev s_is_pour : Stmt := top 49
def d_is_pour : He.DefD := ⟨("is_pour", none), "is_pour", "is_pour", defArgs s_is_pour, defBody s_is_pour, defScope s_is_pour, [], []⟩
abbrev s_is_version : Stmt := top 50
def d_is_version : He.DefD := ⟨("is_version", none), "is_version", "is_version", defArgs s_is_version, defBody s_is_version, defScope s_is_version, [], []⟩
abbrev s_is_link : Stmt := top 51
def d_is_link : He.DefD := ⟨("is_link", none), "is_link", "is_link", defArgs s_is_link, defBody s_is_link, defScope s_is_link, [], []⟩
abbrev s_is_record : Stmt := top 52
def d_is_record : He.DefD := ⟨("is_record", none), "is_record", "is_record", defArgs s_is_record, defBody s_is_record, defScope s_is_record, [], []⟩
abbrev s_number_of : Stmt := top 57
def d_number_of : He.DefD := ⟨("number_of", none), "number_of", "number_of", defArgs s_number_of, defBody s_number_of, defScope s_number_of, [], []⟩
abbrev s_spans_text : Stmt := top 58
def d_spans_text : He.DefD := ⟨("spans_text", none), "spans_text", "spans_text", defArgs s_spans_text, defBody s_spans_text, defScope s_spans_text, [], []⟩
abbrev s_id_text : Stmt := top 59
def d_id_text : He.DefD := ⟨("id_text", none), "id_text", "id_text", defArgs s_id_text, defBody s_id_text, defScope s_id_text, [], []⟩
abbrev s_record_text : Stmt := top 60
def d_record_text : He.DefD := ⟨("record_text", none), "record_text", "record_text", defArgs s_record_text, defBody s_record_text, defScope s_record_text, [], []⟩
abbrev s_records_text : Stmt := top 61
def d_records_text : He.DefD := ⟨("records_text", none), "records_text", "records_text", defArgs s_records_text, defBody s_records_text, defScope s_records_text, [], []⟩
abbrev s_span_of : Stmt := top 62
def d_span_of : He.DefD := ⟨("span_of", none), "span_of", "span_of", defArgs s_span_of, defBody s_span_of, defScope s_span_of, [], []⟩
abbrev s_spans_of : Stmt := top 63
def d_spans_of : He.DefD := ⟨("spans_of", none), "spans_of", "spans_of", defArgs s_spans_of, defBody s_spans_of, defScope s_spans_of, [], []⟩
abbrev s_id_of : Stmt := top 64
def d_id_of : He.DefD := ⟨("id_of", none), "id_of", "id_of", defArgs s_id_of, defBody s_id_of, defScope s_id_of, [], []⟩
abbrev s_ids_of : Stmt := top 65
def d_ids_of : He.DefD := ⟨("ids_of", none), "ids_of", "ids_of", defArgs s_ids_of, defBody s_ids_of, defScope s_ids_of, [], []⟩
abbrev s_parts_of : Stmt := top 66
def d_parts_of : He.DefD := ⟨("parts_of", none), "parts_of", "parts_of", defArgs s_parts_of, defBody s_parts_of, defScope s_parts_of, [], []⟩
abbrev s_record_of : Stmt := top 67
def d_record_of : He.DefD := ⟨("record_of", none), "record_of", "record_of", defArgs s_record_of, defBody s_record_of, defScope s_record_of, [], []⟩
abbrev s_read_spans : Stmt := top 68
def d_read_spans : He.DefD := ⟨("read_spans", none), "read_spans", "read_spans", defArgs s_read_spans, defBody s_read_spans, defScope s_read_spans, [], []⟩
abbrev s_read_record : Stmt := top 69
def d_read_record : He.DefD := ⟨("read_record", none), "read_record", "read_record", defArgs s_read_record, defBody s_read_record, defScope s_read_record, [], []⟩
abbrev s_read_records : Stmt := top 70
def d_read_records : He.DefD := ⟨("read_records", none), "read_records", "read_records", defArgs s_read_records, defBody s_read_records, defScope s_read_records, [], []⟩
abbrev s__law_bag : Stmt := top 72
def d__law_bag : He.DefD := ⟨("_law_bag", none), "_law_bag", "_law_bag", defArgs s__law_bag, defBody s__law_bag, defScope s__law_bag, [], []⟩
abbrev s__law_take : Stmt := top 73
def d__law_take : He.DefD := ⟨("_law_take", none), "_law_take", "_law_take", defArgs s__law_take, defBody s__law_take, defScope s__law_take, [], []⟩
abbrev s__law_of : Stmt := top 74
def d__law_of : He.DefD := ⟨("_law_of", none), "_law_of", "_law_of", defArgs s__law_of, defBody s__law_of, defScope s__law_of, [], []⟩
abbrev s__law_name : Stmt := top 75
def d__law_name : He.DefD := ⟨("_law_name", none), "_law_name", "_law_name", defArgs s__law_name, defBody s__law_name, defScope s__law_name, [], []⟩
abbrev s__law_kinds : Stmt := top 76
def d__law_kinds : He.DefD := ⟨("_law_kinds", none), "_law_kinds", "_law_kinds", defArgs s__law_kinds, defBody s__law_kinds, defScope s__law_kinds, [], []⟩
abbrev s__law_signs : Stmt := top 77
def d__law_signs : He.DefD := ⟨("_law_signs", none), "_law_signs", "_law_signs", defArgs s__law_signs, defBody s__law_signs, defScope s__law_signs, [], []⟩
abbrev s__law_page_of : Stmt := top 78
def d__law_page_of : He.DefD := ⟨("_law_page_of", none), "_law_page_of", "_law_page_of", defArgs s__law_page_of, defBody s__law_page_of, defScope s__law_page_of, [], []⟩
abbrev s__law_span : Stmt := top 79
def d__law_span : He.DefD := ⟨("_law_span", none), "_law_span", "_law_span", defArgs s__law_span, defBody s__law_span, defScope s__law_span, [], []⟩
abbrev s__law_page : Stmt := top 80
def d__law_page : He.DefD := ⟨("_law_page", none), "_law_page", "_law_page", defArgs s__law_page, defBody s__law_page, defScope s__law_page, [], []⟩
abbrev s__law_ends_of : Stmt := top 81
def d__law_ends_of : He.DefD := ⟨("_law_ends_of", none), "_law_ends_of", "_law_ends_of", defArgs s__law_ends_of, defBody s__law_ends_of, defScope s__law_ends_of, [], []⟩
abbrev s__law_some_spans : Stmt := top 82
def d__law_some_spans : He.DefD := ⟨("_law_some_spans", none), "_law_some_spans", "_law_some_spans", defArgs s__law_some_spans, defBody s__law_some_spans, defScope s__law_some_spans, [], []⟩
abbrev s__law_text : Stmt := top 83
def d__law_text : He.DefD := ⟨("_law_text", none), "_law_text", "_law_text", defArgs s__law_text, defBody s__law_text, defScope s__law_text, [], []⟩
abbrev s__law_id : Stmt := top 84
def d__law_id : He.DefD := ⟨("_law_id", none), "_law_id", "_law_id", defArgs s__law_id, defBody s__law_id, defScope s__law_id, [], []⟩
abbrev s__law_some_ends : Stmt := top 85
def d__law_some_ends : He.DefD := ⟨("_law_some_ends", none), "_law_some_ends", "_law_some_ends", defArgs s__law_some_ends, defBody s__law_some_ends, defScope s__law_some_ends, [], []⟩
abbrev s__law_pool : Stmt := top 86
def d__law_pool : He.DefD := ⟨("_law_pool", none), "_law_pool", "_law_pool", defArgs s__law_pool, defBody s__law_pool, defScope s__law_pool, [], []⟩
abbrev s__law_record : Stmt := top 87
def d__law_record : He.DefD := ⟨("_law_record", none), "_law_record", "_law_record", defArgs s__law_record, defBody s__law_record, defScope s__law_record, [], []⟩
abbrev s__law_spans_line : Stmt := top 88
def d__law_spans_line : He.DefD := ⟨("_law_spans_line", none), "_law_spans_line", "_law_spans_line", defArgs s__law_spans_line, defBody s__law_spans_line, defScope s__law_spans_line, [], []⟩
abbrev s__law_id_line : Stmt := top 89
def d__law_id_line : He.DefD := ⟨("_law_id_line", none), "_law_id_line", "_law_id_line", defArgs s__law_id_line, defBody s__law_id_line, defScope s__law_id_line, [], []⟩
abbrev s__law_line : Stmt := top 90
def d__law_line : He.DefD := ⟨("_law_line", none), "_law_line", "_law_line", defArgs s__law_line, defBody s__law_line, defScope s__law_line, [], []⟩
abbrev s__law_no_text : Stmt := top 91
def d__law_no_text : He.DefD := ⟨("_law_no_text", none), "_law_no_text", "_law_no_text", defArgs s__law_no_text, defBody s__law_no_text, defScope s__law_no_text, [], []⟩
abbrev s_law : Stmt := top 92
def d_law : He.DefD := ⟨("law", none), "law", "law", defArgs s_law, defBody s_law, defScope s_law, [], []⟩
def fn : List He.DefD := [d_NoText, d_Forged, d_Gainsaid, d_NoPlace, d_Crossed, d_Wanting, d_NoWork, d_NoVersion, d_NoAuthor, d_is_whole, d_is_within, d_is_name, d_is_span, d_go_on, d_long, d_is_page, d_is_apart, d_is_ends, d_is_id, d_is_sign, d_is_poured, d_are_parents, d_is_pour, d_is_version, d_is_link, d_is_record, d_number_of, d_spans_text, d_id_text, d_record_text, d_records_text, d_span_of, d_spans_of, d_id_of, d_ids_of, d_parts_of, d_record_of, d_read_spans, d_read_record, d_read_records, d__law_bag, d__law_take, d__law_of, d__law_name, d__law_kinds, d__law_signs, d__law_page_of, d__law_span, d__law_page, d__law_ends_of, d__law_some_spans, d__law_text, d__law_id, d__law_some_ends, d__law_pool, d__law_record, d__law_spans_line, d__law_id_line, d__law_line, d__law_no_text, d_law]
end Pw
namespace Pw
open PySem PySem.Spec PyProof.Rows L2 Ms
def loose_0 : List Str := ["LoomError", "ToldError", "AskedError", "NoRecord", "NoName", "NoRow", "NoPrices", "NoDeed", "NoEnd", "Twice", "NoText", "Forged", "Gainsaid", "TooLong", "NoSigns", "NoLink", "NoBase", "NoPlace", "Crossed", "Wanting", "NoWork", "NoVersion", "NoAuthor", "LETTERS", "POOL"]
def loose_1 : List Str := ["MOST_SPANS", "MOST_SIGNS", "is_whole", "is_within", "is_name", "is_span", "go_on", "long", "is_page", "is_apart", "is_ends", "MOST_POURED", "MOST_PARENTS", "MOST_NUMBER", "FIRST_SIGN", "LAST_SIGN", "is_id", "is_sign", "is_poured", "are_parents", "is_pour", "is_version", "is_link", "is_record", "FIGURES"]
def loose_2 : List Str := ["MOST_FIGURES", "NONE", "number_of", "spans_text", "id_text", "record_text", "records_text", "span_of", "spans_of", "id_of", "ids_of", "parts_of", "record_of", "read_spans", "read_record", "read_records", "_law_bag", "_law_take", "_law_of", "_law_name", "_law_kinds", "_law_signs", "_law_page_of", "_law_span", "_law_page"]
def loose_3 : List Str := ["_law_ends_of", "_law_some_spans", "_law_text", "_law_id", "_law_some_ends", "_law_pool", "_law_record", "_law_spans_line", "_law_id_line", "_law_line", "_law_no_text"]
def loose : List Str := List.flatten [loose_0, loose_1, loose_2, loose_3]
abbrev R : PySem.W.OpenRow := PySem.W.OpenLaw.row PySem.Challenge.rw_spanloom_k46_records_as_texts
abbrev hk : PySem.W.Hook := hookM 4 fb fn
def ob (s : PySem.W.SharedT) : He.AlD := obsMG 4 fb fn (HandSHeadRun.getT s)
theorem ob_eq (s : PySem.W.SharedT) : ob s = hk.obs s.abs := obsMG_eq (HandSHeadRun.getT_eq s)
noncomputable abbrev hE (w : World) (os : OsState) : Option PySem.W.SharedT := HandSHeadRun.endF (HandSHeadRun.stepQ (HandSHeadRun.denQ HandSHeadRun.tabQ) R.prog w) 20000 R.prog w os
abbrev hK (s : PySem.W.SharedT) : PySem.W.Frag := He.frG (HandSHeadRun.getT s) (asM (HandSHeadRun.getT s) 4)
open HandSHeadRun PySem.W in
theorem hr1 (w : World) (os : OsState) : (hE w os).map (fun s => (looksF R.prog (boot_heap w.params) s.abs, seenQ (PySem.W.view R.prog [92]) loose (importedModules R.prog.main.body) (fun s => xlAt (PySem.W.view R.prog [92]) [] s && recOk R.toRowW.records s) s.abs)) = some (true, openGood (PySem.W.view R.prog [92]) loose) := by
  kernel_rfl
theorem hr2 (w : World) (os : OsState) : (hE w os).map (fun s => fb.all fun f => f.ok (hK s)) = some true := by
  kernel_rfl
theorem hr3 (w : World) (os : OsState) : (hE w os).map (fun s => (fn.all fun d => d.ok (hK s), fn.map fun d => He.fnW (hK s) d.at_)) = some (true, fn.map He.DefD.val) := by
  kernel_rfl
theorem hrun (w : World) : HandSHeadRun.RunEq R (PySem.W.view R.prog [92]) hk ob 20000 loose w := by
  intro os
  have h1 := hr1 w os
  have h2 := hr2 w os
  have h3 := hr3 w os
  show (hE w os).map _ = _
  cases e : hE w os with
  | none =>
    rw [e] at h1
    cases h1
  | some s =>
    rw [e] at h1 h2 h3
    have g1 := Option.some.inj h1
    have g2 : (fb.all fun f => f.ok (hK s)) = true := Option.some.inj h2
    have g3 := Option.some.inj h3
    have a1 := congrArg Prod.fst g1
    have a2 := congrArg Prod.snd g1
    have b1 : (fn.all fun d => d.ok (hK s)) = true := congrArg Prod.fst g3
    have b2 : (fn.map fun d => He.fnW (hK s) d.at_) = fn.map He.DefD.val := congrArg Prod.snd g3
    have c : ob s = hk.val w := by
      show ((fb.all fun f => f.ok (hK s)) && (fn.all fun d => d.ok (hK s)), fn.map fun d => He.fnW (hK s) d.at_) = (true, fn.map He.DefD.val)
      rw [g2, b1, b2]
      rfl
    exact congrArg some (Prod.ext a1 (Prod.ext a2 c))
end Pw
/-! Ms18: a, *b = ..; f-texts; split; constants. -/
namespace PySem.MsX
open PySem PyProof.Rows PySem.W
section
variable {prog : Program} {w : World} {A : Around} {E : Value → Shared → Prop} {s : Shared}
theorem us_L {l : Addr} {items : Array Value} {Q : List Value → Shared → Prop} {x : Value} {xs : List Value} (hl : s.heap.IsList l items) (hh : A.handled = none) (hi : items.toList = x :: xs) (hz : items.size ≤ 16384)
    (h : ∀ (h₂ : Heap) (tk : Nat), (∀ b o, s.heap.get? b = some o → h₂.get? b = some o) → Q [x, .ref h₂.objs.size] { s with heap := h₂.push { cls := .type "list", data := .seq xs.toArray }, toks := tk }) : wpAny (model prog w) A (unpackItems (.ref l) 2 (some 1)) Q E s := by
  have hsz : items.size = xs.length + 1 := by rw [← Array.length_toList, hi]; rfl
  have hlt : l ≠ s.heap.objs.size := by obtain ⟨o, ho, _⟩ := hl; exact Nat.ne_of_lt (Heap.lt_size ho)
  unfold unpackItems
  refine wpAny_bind ?_
  unfold notIterableAtAll
  refine wpAny_bind (wpAny_specialOf hl.typeIs slot_list_iter.lookup ?_)
  refine wpAny_pure ?_
  simp only [Bool.false_eq_true, if_false]
  refine wpAny_bind (wpAny_holding (wpAny_pyIter_list hl ?_))
  refine wpAny_bind (wpAny_holding (kun_draw hlt 1 0 _ _ ⟨_, Heap.get?_push_size _ rfl, rfl, rfl⟩ (hl.push _) (by omega) fun h₁ hit₁ hs₁ => ?_))
  have hl₁ : h₁.IsList l items := (hl.push _).extBut hs₁.extBut hlt
  rw [Nat.zero_add] at hit₁
  have hit₁' := hit₁
  obtain ⟨oi, hoi, _⟩ := hit₁'
  have hl₁' := hl₁
  obtain ⟨ol, hol, _⟩ := hl₁'
  rw [List.drop_zero]
  have hfl : (items.toList.take 1).length = 1 := by rw [List.length_take, Array.length_toList]; omega
  rw [if_neg (show ¬ ((items.toList.take 1).length < 1) by rw [hfl]; omega)]
  refine wpAny_bind (wpAny_holding (kun_collect (s := { s with heap := h₁ }) (T := "list_iterator") (.inr (.inr (.inl rfl))) (Walks.list (A := A.in1) hh s.heap.objs.size l hlt items) (fun j u st => st.1.typeIs) (k := 1) (by omega) ⟨hit₁, hl₁⟩ (Heap.lt_size hoi) (Heap.lt_size hol) (fun h₂ tk hk => ?_) (by rw [sizeLine_eq]; omega)))
  have he : ∀ b o, s.heap.get? b = some o → h₂.get? b = some o := fun b o e => by
    have hb : b ≠ s.heap.objs.size := Nat.ne_of_lt (Heap.lt_size e)
    exact hk b o hb (hs₁.extBut b o hb (Heap.get?_push_of_some _ e))
  rw [hi]
  show wpAny _ _ (newList (xs.take (xs.length - 0)) >>= fun d => pure ([x] ++ [d] ++ xs.drop (xs.length - 0))) _ _ _
  rw [Nat.sub_zero, List.take_length, List.drop_length]
  exact wpAny_bind (wpAny_newObj_type (wpAny_pure (h h₂ tk he)) (by show xs.length ≤ sizeLine; rw [sizeLine_eq]; omega))
theorem us_T {l : Addr} {items : Array Value} {Q : List Value → Shared → Prop} {x : Value} {xs : List Value} (hl : IsTup s.heap l items) (hh : A.handled = none) (hi : items.toList = x :: xs) (hz : items.size ≤ 16384)
    (h : ∀ (h₂ : Heap) (tk : Nat), (∀ b o, s.heap.get? b = some o → h₂.get? b = some o) → Q [x, .ref h₂.objs.size] { s with heap := h₂.push { cls := .type "list", data := .seq xs.toArray }, toks := tk }) : wpAny (model prog w) A (unpackItems (.ref l) 2 (some 1)) Q E s := by
  have hsz : items.size = xs.length + 1 := by rw [← Array.length_toList, hi]; rfl
  have hlt : l ≠ s.heap.objs.size := by obtain ⟨o, ho, _⟩ := hl; exact Nat.ne_of_lt (Heap.lt_size ho)
  unfold unpackItems
  refine wpAny_bind ?_
  unfold notIterableAtAll
  refine wpAny_bind (wpAny_specialOf hl.typeIs slot_tuple_iter.lookup ?_)
  refine wpAny_pure ?_
  simp only [Bool.false_eq_true, if_false]
  refine wpAny_bind (wpAny_holding (iter_tuple hl ?_))
  refine wpAny_bind (wpAny_holding (draw_tuple hlt 1 0 _ _ ⟨_, Heap.get?_push_size _ rfl, rfl, rfl⟩ (hl.push _) (by omega) fun h₁ hit₁ hs₁ => ?_))
  have hl₁ : IsTup h₁ l items := (hl.push _).extBut hs₁.extBut hlt
  rw [Nat.zero_add] at hit₁
  have hit₁' := hit₁
  obtain ⟨oi, hoi, _⟩ := hit₁'
  have hl₁' := hl₁
  obtain ⟨ol, hol, _⟩ := hl₁'
  rw [List.drop_zero]
  have hfl : (items.toList.take 1).length = 1 := by rw [List.length_take, Array.length_toList]; omega
  rw [if_neg (show ¬ ((items.toList.take 1).length < 1) by rw [hfl]; omega)]
  refine wpAny_bind (wpAny_holding (kun_collect (s := { s with heap := h₁ }) (T := "tuple_iterator") (.inr (.inr (.inr rfl))) (Walks.tuple (A := A.in1) hh s.heap.objs.size l hlt items) (fun j u st => st.1.typeIs) (k := 1) (by omega) ⟨hit₁, hl₁⟩ (Heap.lt_size hoi) (Heap.lt_size hol) (fun h₂ tk hk => ?_) (by rw [sizeLine_eq]; omega)))
  have he : ∀ b o, s.heap.get? b = some o → h₂.get? b = some o := fun b o e => by
    have hb : b ≠ s.heap.objs.size := Nat.ne_of_lt (Heap.lt_size e)
    exact hk b o hb (hs₁.extBut b o hb (Heap.get?_push_of_some _ e))
  rw [hi]
  show wpAny _ _ (newList (xs.take (xs.length - 0)) >>= fun d => pure ([x] ++ [d] ++ xs.drop (xs.length - 0))) _ _ _
  rw [Nat.sub_zero, List.take_length, List.drop_length]
  exact wpAny_bind (wpAny_newObj_type (wpAny_pure (h h₂ tk he)) (by show xs.length ≤ sizeLine; rw [sizeLine_eq]; omega))
end
end PySem.MsX
namespace Ms
open PySem PySem.Spec PyProof.Rows L2
/-- (a, *b) = a sequence -/
def gStar (K : PySem.W.Frag) (t1 t2 : TG) : TG := fun v σ H Q => ∃ a x xs, v = .ref a ∧ (SqL K H a (x :: xs) ∨ SqT K H a (x :: xs)) ∧ xs.length ≤ 16000 ∧ ∀ p, H p = none → t1 x σ (upd H p (.lst xs)) fun σ1 H1 => t2 (.ref p) σ1 H1 Q
section
variable {X : Cx} {e1 e2 : Expr} {t1 t2 : TG} {p pos : Pos} {k : Nat}
theorem pg_star (hc : X.calm = true) (h1 : PG X e1 t1) (h2 : PG X e2 t2) (hn : (assignEach [e1, .Starred e2 p] X.env).length = 2 := by rfl) (hst : (assignEach [e1, .Starred e2 p] X.env).findIdx? (·.1) = some 1 := by rfl)
    (hm : (assignEach [e1, .Starred e2 p] X.env).map (·.2) = [assign e1 X.env, assign e2 X.env] := by rfl) : PG X (.Tuple [e1, .Starred e2 p] k pos) (gStar X.K t1 t2) := by
  refine ⟨fun pins s σ H v u Q I r hw => ?_⟩
  obtain ⟨a, x, xs, rfl, hq, hz, hw⟩ := hw
  cases r
  rw [PyProof.Rows.assign_Tuple]
  refine wpAny_bind (wpAny_standAt ?_)
  unfold unpack
  rw [hn, hst, hm]
  have fin : ∀ (y : Value) (ys : List Value), RelV x y → Vals xs ys → ∀ (h₂ : Heap) (tk : Nat), (∀ b o, s.heap.get? b = some o → h₂.get? b = some o) →
      wpAny (model X.prog X.w) X.A (assignInOrder [assign e1 X.env, assign e2 X.env] [y, .ref h₂.objs.size]) (fun _ s' => ∃ σ' H', Inv X pins σ' H' s' ∧ Q σ' H') X.xe { s with heap := h₂.push { cls := .type "list", data := .seq ys.toArray }, toks := tk } := fun y ys ry rys h₂ tk he => by
    have I1 : Inv X pins σ H { s with heap := h₂, toks := tk } := I.kept (t' := tk) he
    have I2 := I1.lnew (t' := tk) rys (by rw [sizeLine_eq]; omega)
    refine assignInOrder_cons (thn (h1.run pins _ σ _ x y _ I2 ry (hw _ I1.fresh)) fun _ s1 ⟨σ1, H1, J1, q1⟩ => ?_)
    exact assignInOrder_cons (thn (h2.run pins _ σ1 H1 (.ref h₂.objs.size) _ _ J1 rfl q1) fun _ s2 ⟨σ2, H2, J2, q2⟩ => assignInOrder_nil ⟨σ2, H2, J2, q2⟩)
  rcases hq with hq | hq
  · obtain ⟨its, rv, pl, hz2⟩ := I.list hq
    have hl' : s.heap.IsList a its.toArray := by
      obtain ⟨o, m, e, c, d, q⟩ := pl
      exact ⟨o, e, c, m, q⟩
    cases rv with
    | @cons _ y _ ys ry rys =>
      exact wpAny_bind (wpAny_holding (PySem.MsX.us_L hl' (I.ok.hd hc) (by simp) (by simp; have := rys.length; omega) fun h₂ tk he => fin y ys ry rys h₂ tk he))
  · obtain ⟨its, rv, ht, hz2⟩ := I.tuple hq
    cases rv with
    | @cons _ y _ ys ry rys =>
      exact wpAny_bind (wpAny_holding (PySem.MsX.us_T ht (I.ok.hd hc) (by simp) (by simp; have := rys.length; omega) fun h₂ tk he => fin y ys ry rys h₂ tk he))
end
end Ms
namespace Ms
open PySem PySem.Spec PyProof.Rows L2
def M.setStar (i j : Nat) (m : M D) : M Fl := do
  let d ← m
  match d with
  | .tup (x :: xs) => if xs.length ≤ 16000 then M.seq (M.put i (.val x)) (M.put j (.val (.lst xs))) else M.stuck
  | .lst (x :: xs) => if xs.length ≤ 16000 then M.seq (M.put i (.val x)) (M.put j (.val (.lst xs))) else M.stuck
  | _ => M.stuck
section
variable {X : Cx} {W : WX} {e : Expr} {p pos tpos p1 p2 : Pos} {k i j : Nat} {m : M D} {x y : Str}
theorem ds_setStar (hc : X.calm = true) (hN : X.N.Nodup) (hi : X.N[i]? = some x) (hj : X.N[j]? = some y) (hx : Loc X.env.scope x) (hy : Loc X.env.scope y) (he : PE X e (tD (XC X) W m)) (hs : swapsWithSole [.Tuple [.Name x p1, .Starred (.Name y p2) p] k tpos] e pos.line X.env = pure false := by rfl)
    (hw : swappedStores [.Tuple [.Name x p1, .Starred (.Name y p2) p] k tpos] e X.env = pure none := by rfl) (h1 : (assignEach [.Tuple [.Name x p1, .Starred (.Name y p2) p] k tpos] X.env).map (·.2) = [assign (.Tuple [.Name x p1, .Starred (.Name y p2) p] k tpos) X.env] := by rfl)
    (hn : (assignEach [.Name x p1, .Starred (.Name y p2) p] X.env).length = 2 := by rfl) (hst : (assignEach [.Name x p1, .Starred (.Name y p2) p] X.env).findIdx? (·.1) = some 1 := by rfl)
    (hm : (assignEach [.Name x p1, .Starred (.Name y p2) p] X.env).map (·.2) = [assign (.Name x p1) X.env, assign (.Name y p2) X.env] := by rfl)
    (hf : X.fn x = true ∨ X.env.scope.names.lookup x = some .local := by first | exact .inl rfl | exact .inr rfl | assumption) (hf2 : X.fn y = true ∨ X.env.scope.names.lookup y = some .local := by first | exact .inl rfl | exact .inr rfl | assumption) :
    PS X (.Assign [.Tuple [.Name x p1, .Starred (.Name y p2) p] k tpos] e pos) (tDS (XC X) W (M.setStar i j m)) := by
  refine psImp (ps_asg he (pg_star hc (pg_name hN hi hx hf) (pg_name hN hj hy hf2) hn hst hm) hs hw h1) fun E σ H ⟨F, μ, s, r, q⟩ => ⟨F, μ, s, r, q.splitE.imp fun d μ1 s1 H1 x1 h1 v hv => ?_⟩
  have go : ∀ (z : D) (zs : List D) (w : V) (ws : List V) (a : Addr), v = .ref a → (SqL X.K H1 a (w :: ws) ∨ SqT X.K H1 a (w :: ws)) → At (XC X) (Tab F μ1 s1 σ) μ1 H1 w z → AtL (XC X) (Tab F μ1 s1 σ) μ1 H1 ws zs → zs.length ≤ 16000 →
      ResS (XC X) W F μ1 s1 σ H1 (M.seq (M.put i (.val z)) (M.put j (.val (.lst zs)))) (fun f μ' s' σ' H' => RtD (XC X) E F μ' s' σ' H' f) → gStar X.K (gName i) (gName j) v σ H1 E.nx := by
    intro z zs w ws a ev hq hz hzs hl h2
    obtain ⟨hi1, h3⟩ := resS_put h2.split
    refine ⟨a, w, ws, ev, hq, by rw [hzs.length]; exact hl, fun p hp => ?_⟩
    have x2 := x1.rep.ext1 (o := .lst ws) hp
    have x3 := x2.rep.putVal hi1 (x2.at hz)
    have h4 := h3 _ _ _ (x2.trans x3)
    obtain ⟨hj1, h5⟩ := resS_put h4
    exact h5 _ _ _ (x3.rep.putVal hj1 (x3.at (x1.rep.newLst hp hzs)))
  split at h1
  · rename_i z zs
    by_cases hl : zs.length ≤ 16000
    · rw [if_pos hl] at h1
      obtain ⟨a, vs, rfl, hp, c⟩ := At.tup_inv hv
      cases c with
      | cons hz hzs => exact go z zs _ _ a rfl (.inr (SqTA.sq hp)) hz hzs hl h1
    · rw [if_neg hl] at h1
      exact (resS_stuck h1).elim
  · rename_i z zs
    by_cases hl : zs.length ≤ 16000
    · rw [if_pos hl] at h1
      obtain ⟨a, vs, rfl, hp, c⟩ := At.lst_inv hv
      cases c with
      | cons hz hzs => exact go z zs _ _ a rfl (.inl (.of hp.2)) hz hzs hl h1
    · rw [if_neg hl] at h1
      exact (resS_stuck h1).elim
  · exact (resS_stuck h1).elim
end
end Ms
/-! Ms19: f-texts, split, int of a text, constants, changes of names, lists' methods. -/
namespace Ms
open PySem PySem.Spec PyProof.Rows L2
/-! ### f-texts -/
def gFmt : D → Option D
  | .str y => if lenOk y.length then some (.str y) else none
  | .int i => if i.natAbs.log2 < 1920 then some (.str (toString i)) else none
  | _ => none
def M.js : List (M D) → Str → M D
  | [], acc => pure (.str acc)
  | m :: ms, acc => do
    match ← m with
    | .str y => if lenOk (acc ++ y).length then M.js ms (acc ++ y) else M.stuck
    | _ => M.stuck
inductive PJD (X : Cx) (W : WX) : List Expr → List (M D) → Prop
  | nil : PJD X W [] []
  | cons {e : Expr} {m : M D} {es : List Expr} {ms : List (M D)} (h : PE X e (tD (XC X) W m)) (r : PJD X W es ms) : PJD X W (e :: es) (m :: ms)
section
variable {X : Cx} {W : WX} {e a b o : Expr} {es : List Expr} {p pos apos pos' : Pos} {m mo ma mb : M D} {ms : List (M D)} {x : Str} {i : Nat}
theorem PJD.pj : ∀ {es : List Expr} {ms : List (M D)}, PJD X W es ms → PJ X es (ms.map (tD (XC X) W))
  | _, _, .nil => .nil
  | _, _, .cons h r => .cons h r.pj
theorem tJs_of : ∀ (ms : List (M D)) (acc : Str) (σ : L2.St) (H : Hp) (Q : VK), tD (XC X) W (M.js ms acc) σ H Q → tJs (ms.map (tD (XC X) W)) acc σ H fun out H1 => Q (.str out) H1
  | [], acc, σ, H, Q, ⟨F, μ, s, r, q⟩ => q.pure r (.str acc) (.of (.str acc))
  | m :: ms, acc, σ, H, Q, ⟨F, μ, s, r, q⟩ => ⟨F, μ, s, r, q.split.imp fun d μ1 s1 H1 x1 h1 v hv => by
    split at h1
    · rename_i y
      by_cases hl : lenOk (acc ++ y).length = true
      · rw [if_pos hl] at h1
        cases at_str hv
        exact ⟨y, rfl, lenOk_line hl, tJs_of ms (acc ++ y) σ H1 Q ⟨F, μ1, s1, x1.rep, h1⟩⟩
      · rw [if_neg hl] at h1
        exact (res_stuck h1).elim
    · exact (res_stuck h1).elim⟩
theorem d_fmt (h : PE X e (tD (XC X) W m)) : PE X (.FormattedValue e (-1) none pos) (tD (XC X) W (M.op1 (sc1 gFmt) m)) :=
  peImp (pe_fmt h) fun σ H Q ⟨F, μ, s, r, q⟩ => ⟨F, μ, s, r, q.split.imp fun d μ1 s1 H1 x1 h1 v hv => by
    obtain ⟨z, ez, k⟩ := res_look h1
    unfold gFmt at ez
    split at ez
    · split at ez
      · rename_i hl
        cases ez
        cases at_str hv
        exact .inl ⟨_, rfl, lenOk_line hl, k H1 (.refl x1.rep) _ (.of (.str _))⟩
      · cases ez
    · split at ez
      · cases ez
        cases at_int (T := F) hv
        exact .inr ⟨_, rfl, by assumption, k H1 (.refl x1.rep) _ (.of (.str _))⟩
      · cases ez
    · cases ez⟩
theorem d_joined {m1 m2 : M D} {e1 e2 : Expr} (h : PJD X W (e1 :: e2 :: es) (m1 :: m2 :: ms)) : PE X (.JoinedStr (e1 :: e2 :: es) pos) (tD (XC X) W (M.js (m1 :: m2 :: ms) Str.empty)) :=
  peImp (pe_joined h.pj) fun σ H Q q => tJs_of _ _ _ _ _ q
/-! ### split -/
def splitD (d e : D) : Option D := match d, e with
  | .str a, .str b => if (b.length == 0) = false ∧ a.length + 2 ≤ 16777216 then some (.lst ((Txt.split a b).map .str)) else none
  | _, _ => none
def M.split (mo m : M D) : M D := do
  let o ← mo
  let o ← M.isS o
  let l ← m
  M.opt (splitD o l)
theorem AtL.strs {C : RC} {T : Addr → Prop} {μ : List Addr} {H : Hp} : ∀ (ys : List Str), AtL C T μ H (ys.map V.str) (ys.map D.str)
  | [] => .nil
  | y :: ys => .cons (.str y) (AtL.strs ys)
theorem d_split (ho : PE X o (tD (XC X) W mo)) (he : PE X e (tD (XC X) W m)) (hs : starEach [e] X.env = [(false, eval e X.env)] := by rfl) (hbase : attributeBase o "split" X.env (eval o X.env) = eval o X.env := by rfl) (hline : (apos.endLine == pos.line) = true := by rfl) :
    PE X (.Call (.Attribute o "split" apos) [e] [] pos) (tD (XC X) W (M.split mo m)) := by
  refine peImp (pe_split ho he hs hbase hline) fun σ H Q ⟨F, μ, s, r, q⟩ => ⟨F, μ, s, r, q.split.imp fun d μ1 s1 H1 x1 h1 v hv => ?_⟩
  obtain ⟨z, rfl, rfl, h1⟩ := res_isS x1.rep hv h1
  refine ⟨⟨z, rfl⟩, F, μ1, s1, x1.rep, h1.split.imp fun l μ2 s2 H2 x2 h2 w hw => ?_⟩
  obtain ⟨t, et, k⟩ := res_opt x2.rep h2
  unfold splitD at et
  split at et
  · rename_i a b ea
    cases ea
    split at et
    · rename_i c
      cases et
      cases at_str hw
      refine ⟨_, _, rfl, rfl, c.1, by rw [sizeLine_eq]; exact c.2, fun p hp => ?_⟩
      have e : M.opt (splitD (.str z) (.str b)) s2 = .ok (.lst ((Txt.split z b).map .str)) s2 := by
        show M.opt (if _ then _ else _) s2 = _
        rw [if_pos c]
        rfl
      exact h2.ok e μ2 _ (x2.rep.ext1 hp) _ (.of (x2.rep.newLst hp (AtL.strs _)))
    · cases et
  · cases et
/-! ### int of a text -/
def gIntS : D → Option D
  | .int i => some (.int i)
  | .bl k => some (.int (if k then 1 else 0))
  | .str a => if a.length ≤ 640 then (PySem.intText? a).map .int else none
  | _ => none
theorem intS_ok {C : RC} : OpD1 C (fun xs H Q => ((∃ i, xs = [.int i] ∧ Q (.int i) H) ∨ ∃ k, xs = [.bl k] ∧ Q (.int (if k then 1 else 0)) H) ∨ ∃ a n, xs = [.str a] ∧ PySem.intText? a = some n ∧ a.length ≤ 640 ∧ Q (.int n) H) (sc1 gIntS) := by
  intro W F μ s σ H x d Q r hx h
  obtain ⟨z, ez, k⟩ := res_look h
  unfold gIntS at ez
  split at ez
  · cases ez
    cases at_int (T := F) hx
    exact .inl (.inl ⟨_, rfl, k H (.refl r) _ (.of (.int _))⟩)
  · cases ez
    cases At.bl_inv hx
    exact .inl (.inr ⟨_, rfl, k H (.refl r) _ (.of (.int _))⟩)
  · split at ez
    · obtain ⟨n, en, rfl⟩ := Option.map_eq_some_iff.mp ez
      cases at_str hx
      exact .inr ⟨_, n, rfl, en, by assumption, k H (.refl r) _ (.of (.int _))⟩
    · cases ez
  · cases ez
/-! ### constants -/
theorem d_gI {j : Int} (hg : Gl X x) (hm : ∃ t, X.mg x = some (.int j t)) (hd : (x == ("__debug__" : Str)) = false := by decide) : PE X (.Name x pos) (tD (XC X) W (M.lit (.int j))) := by
  obtain ⟨t, hm⟩ := hm
  exact d_gInt hg hm hd
theorem d_gS {z : Str} (hg : Gl X x) (hm : ∃ t, X.mg x = some (.str z t)) (hd : (x == ("__debug__" : Str)) = false := by decide) : PE X (.Name x pos) (tD (XC X) W (M.lit (.str z))) := by
  obtain ⟨t, hm⟩ := hm
  exact d_gStr hg hm hd
/-! ### name op= e -/
def M.aug (g : Int → Int → Int) (i : Nat) (m : M D) : M Fl := do
  let x ← M.peek i
  let y ← m
  match x, y with
  | .int a, .int b => M.put i (.val (.int (g a b)))
  | _, _ => M.stuck
theorem tAug_of {g : Int → Int → Int} (E : Ends) (σ : L2.St) (H : Hp) (h : tDS (XC X) W (M.aug g i m) E σ H) : tAug i (tD (XC X) W m) (ipI g) E σ H := by
  obtain ⟨F, μ, s, r, q⟩ := h
  have q := q.splitE
  unfold Res M.peek at q
  cases e : s.ρ[i]? with
  | none => rw [e] at q; exact q.elim
  | some sl =>
    rw [e] at q
    cases sl with
    | no => exact q.elim
    | own mo =>
      obtain ⟨a, ea, _⟩ := r.slots i _ e
      refine ⟨_, ea, F, μ, s, r, (q μ H (.refl r)).splitE.imp fun y μ1 s1 H1 x1 h1 w hw => ?_⟩
      exact (resS_stuck h1).elim
    | val d =>
      obtain ⟨v, ev, hv⟩ := r.slots i _ e
      refine ⟨v, ev, F, μ, s, r, (q μ H (.refl r)).splitE.imp fun y μ1 s1 H1 x1 h1 w hw => ?_⟩
      split at h1
      · cases hv.int_inv
        cases at_int (T := F) hw
        obtain ⟨hl, h2⟩ := resS_put h1
        exact ⟨_, _, rfl, rfl, h2 _ _ _ (x1.rep.putVal hl (.int _))⟩
      · exact (resS_stuck h1).elim
theorem ds_augAdd (hN : X.N.Nodup) (hi : X.N[i]? = some x) (hx : Loc X.env.scope x) (he : PE X e (tD (XC X) W m)) (hf : X.fn x = true ∨ X.env.scope.names.lookup x = some .local := by first | exact .inl rfl | exact .inr rfl | assumption) :
    PS X (.AugAssign (.Name x pos') .Add e pos) (tDS (XC X) W (M.aug (fun a b => a + b) i m)) := psImp (ps_aug hN hi hx he ip_add hf) tAug_of
theorem ds_augSub (hN : X.N.Nodup) (hi : X.N[i]? = some x) (hx : Loc X.env.scope x) (he : PE X e (tD (XC X) W m)) (hf : X.fn x = true ∨ X.env.scope.names.lookup x = some .local := by first | exact .inl rfl | exact .inr rfl | assumption) :
    PS X (.AugAssign (.Name x pos') .Sub e pos) (tDS (XC X) W (M.aug (fun a b => a - b) i m)) := psImp (ps_aug hN hi hx he ip_sub hf) tAug_of
/-! ### a, b = a tuple -/
def M.setMany (is : List Nat) (m : M D) : M Fl := do
  let d ← m
  let d ← M.out d
  M.bindTo (.many is) d
theorem ds_setMany {is : List Nat} {k : Nat} {tpos : Pos} (hg : PG X (.Tuple es k tpos) (gOf X.K (.many is))) (he : PE X e (tD (XC X) W m)) (hs : swapsWithSole [.Tuple es k tpos] e pos.line X.env = pure false := by rfl) (hw : swappedStores [.Tuple es k tpos] e X.env = pure none := by rfl)
    (h1 : (assignEach [.Tuple es k tpos] X.env).map (·.2) = [assign (.Tuple es k tpos) X.env] := by rfl) : PS X (.Assign [.Tuple es k tpos] e pos) (tDS (XC X) W (M.setMany is m)) :=
  psImp (ps_asg he hg hs hw h1) fun E σ H ⟨F, μ, s, r, q⟩ => ⟨F, μ, s, r, q.splitE.imp fun d μ1 s1 H1 x1 h1 v hv => by
    obtain ⟨n, h1⟩ := resS_out x1.rep h1
    have h2 : ResS (XC X) W F μ1 s1 σ H1 (M.bindTo (.many is) d >>= fun f => (pure f : M Fl)) (fun f μ' s' σ' H' => RtD (XC X) E F μ' s' σ' H' f) := by
      unfold ResS at h1 ⊢
      have e : (M.bindTo (.many is) d >>= fun f => (pure f : M Fl)) s1 = M.bindTo (.many is) d s1 := by
        show M.bind _ _ _ = _
        unfold M.bind
        cases M.bindTo (.many is) d s1 <;> rfl
      rw [e]
      exact h1
    obtain ⟨s', e, kk⟩ := bindTo_res h2
    exact gOf_ok (C := XC X) x1.rep (hv.at n) e fun σ' x2 _ => (kk _ _ _ x2).pure x2.rep⟩
end
end Ms
namespace MsT
open PySem PySem.Spec PyProof.Rows L2
def IsKV (v : Value) : Prop := (∃ i t, v = Value.int i t) ∨ ∃ x t, v = Value.str x t
abbrev TK (P : Program) (w : World) : HeapKind P w (List Key) := tupleKind (mixKind P w)
abbrev thash (P : Program) (w : World) (k : List Key) : Int := tupleKeyHash (mixKind P w) k
/-- the tuple at a has the ints k -/
abbrev IsT (P : Program) (w : World) (h : Heap) (k : List Key) (a : Addr) : Prop := IsTupleKey (mixKind P w) h k a
/-! ### the model's words, opened -/
/-- behind a candidate (the model's text from «let some (_, y)» on) -/
def searchRest (a : Addr) (x : Value) (h : Int) (adding : Bool) (fuel : Nat) (es : Array (Int × Value)) (t : SetTable) (j i : Nat) (next : SetTable.Probe) : Sem SetFound := do
  let some (_, y) := es[i]? | unsupported "internal:set-entry"
  let equal ← holding [y] (eqBool y x)
  let (es', _, t') ← setState a
  if adding && equal then return .there none
  let some same := t'.sameMemory t.moves t.mask | unsupported "set.changed-during-lookup:is-the-new-block-at-the-old-address"
  let still ← match (if same then t'.slot j else .empty) with
    | .live i' => match es'[i']? with
      | some (_, y') => do pure (if ← isSame y' y then some i' else none)
      | none => pure none
    | _ => pure none
  match still with
  | none => rule "set.search.anew"; setSearchFrom a x h adding fuel none
  | some i' => if equal then return .there (some i') else setSearchFrom a x h adding fuel (some next)
theorem setSearchFrom_succ (a : Addr) (x : Value) (h : Int) (adding : Bool) (fuel : Nat) (stand : Option SetTable.Probe) : setSearchFrom a x h adding (fuel + 1) stand = (do
    let (es, _, t) ← setState a
    if t.gaveWay then unsupported "set:on-a-table-that-gave-way"
    let some met := t.probe (fun i => (es[i]?.map (·.1)).getD 0) h (stand.getD (t.probeStart h)) | unsupported "internal:set-table-without-an-empty-slot"
    match met with
    | .empty j dummy =>
      match dummy with
      | none => return .free j false
      | some d =>
        if adding && t.slot d != .dummy then rule "set.search.the-dummy-was-taken"; return ← setSearchFrom a x h adding fuel none
        return .free d true
    | .candidate j i next =>
      if !t.led then
        if ← searchCouldBeSeen x ((es.filter (·.1 == h)).toList.map (·.2)) then unsupported "set:the-search-would-show-the-table"
      searchRest a x h adding fuel es t j i next) := by rfl
section
variable {P : Program} {w : World} {A : Around} {E : Value → Shared → Prop} {s : Shared}
/-! ### small questions asked of tuples -/
theorem mix_kv {k : Key} {v : Value} (h : (mixKind P w).is k v = true) : IsKV v := by
  rcases keyIs_shape h with ⟨i, t, e1, e⟩ | ⟨x, t, e1, e⟩
  · exact .inl ⟨i, t, by first | exact e1 | exact e⟩
  · exact .inr ⟨x, t, by first | exact e1 | exact e⟩
theorem items_int {k : List Key} {vs : List Value} (h : ItemsAre (mixKind P w) k vs) : ∀ v ∈ vs, IsKV v := by
  induction h with
  | nil => intro v hv; cases hv
  | @cons k0 v' ks vs h1 _ ih =>
    intro v hv
    rcases List.mem_cons.mp hv with e | hv
    · rw [e]
      exact mix_kv h1
    · exact ih v hv
/-- an int is of no class statement, by value -/
theorem ofAClass_int (n : Nat) (i : Int) (t : Tok) : ofAClassStatement n (.int i t) = pure false := by
  cases n <;> rfl
theorem hashBy_int (n : Nat) (i : Int) (t : Tok) : hashByValue n (.int i t) = pure true := by
  cases n <;> rfl
theorem ofAClass_kv (n : Nat) {v : Value} (h : IsKV v) : ofAClassStatement n v = pure false := by
  rcases h with ⟨i, t, rfl⟩ | ⟨x, t, rfl⟩ <;> cases n <;> rfl
theorem hashBy_kv (n : Nat) {v : Value} (h : IsKV v) : ∃ b, hashByValue n v = pure b := by
  rcases h with ⟨i, t, rfl⟩ | ⟨x, t, rfl⟩
  · exact ⟨true, by cases n <;> rfl⟩
  · exact ⟨false, by cases n <;> rfl⟩
theorem ofAClass_tup {k : List Key} {b : Addr} {Q : Bool → Shared → Prop} (hk : IsT P w s.heap k b) (h : Q false s) : wpAny (model P w) A (ofAClassStatement 8 (.ref b)) Q E s := by
  have hT := hk.typeIs
  obtain ⟨o, items, n, ho, _, hd, hi⟩ := hk
  unfold ofAClassStatement
  refine wpAny_bind (wpAny_typeOf hT ?_)
  dsimp only
  have e : (("tuple" : String) == "tuple") = true := by decide
  simp only [e, if_true, Bool.not_true, Bool.false_eq_true, if_false]
  try refine wpAny_bind (wpAny_pure ?_)
  try simp only [Bool.not_true, Bool.false_eq_true, if_false]
  show wpAny _ _ (seqItems? (.ref b) >>= _) _ _ s
  refine wpAny_bind (wpAny_seqItems ho hd ?_)
  dsimp only
  refine wpAny_bind ?_
  show wpAny _ _ (forIn items _ _) _ _ s
  rw [← Array.forIn_toList]
  refine wpAny_forIn_list _ (fun rest r s' => r.1 = none ∧ s' = s ∧ ∀ v ∈ rest, IsKV v) _ ?_ ?_ _ _ ⟨rfl, rfl, items_int hi⟩
  · rintro v rest r s' ⟨hr, rfl, hall⟩
    rw [ofAClass_kv _ (hall v List.mem_cons_self)]
    refine wpAny_bind (wpAny_pure ?_)
    simp only [Bool.false_eq_true, if_false]
    exact wpAny_pure ⟨rfl, rfl, fun u hu' => hall u (List.mem_cons_of_mem _ hu')⟩
  · rintro ⟨r1, r2⟩ s' ⟨hr, rfl, _⟩
    simp only at hr
    subst hr
    exact wpAny_pure h
theorem hashBy_tup {k : List Key} {b : Addr} {Q : Bool → Shared → Prop} (hk : IsT P w s.heap k b) (h : ∀ r, Q r s) : wpAny (model P w) A (hashByValue 8 (.ref b)) Q E s := by
  have hT := hk.typeIs
  obtain ⟨o, items, n, ho, _, hd, hi⟩ := hk
  unfold hashByValue
  refine wpAny_bind (wpAny_specialOf hT F.slot_tuple_hash.lookup ?_)
  show wpAny _ _ (seqItems? (.ref b) >>= _) _ _ s
  refine wpAny_bind (wpAny_seqItems ho hd ?_)
  refine wpAny_bind ?_
  show wpAny _ _ (forIn items _ _) _ _ s
  rw [← Array.forIn_toList]
  refine wpAny_forIn_list _ (fun rest r s' => s' = s ∧ ∀ v ∈ rest, IsKV v) _ ?_ ?_ _ _ ⟨rfl, items_int hi⟩
  · rintro v rest r s' ⟨rfl, hall⟩
    obtain ⟨bb, eb⟩ := hashBy_kv 7 (hall v List.mem_cons_self)
    rw [eb]
    refine wpAny_bind (wpAny_pure ?_)
    cases bb with
    | true =>
      simp only [Bool.not_true, Bool.false_eq_true, if_false]
      exact wpAny_pure ⟨rfl, fun u hu' => hall u (List.mem_cons_of_mem _ hu')⟩
    | false =>
      simp only [Bool.not_false, if_true]
      exact wpAny_pure (wpAny_pure (h false))
  · rintro ⟨r1, r2⟩ s' ⟨rfl, _⟩
    cases r1 with
    | none => exact wpAny_pure (h true)
    | some b => exact wpAny_pure (h b)
theorem byVal2 {α : Type} {k : List Key} {b : Addr} {p : Bool} {f : Bool → Sem α} {Q : α → Shared → Prop} (hk : IsT P w s.heap k b) (h : ∀ r, wpAny (model P w) A (f r) Q E s) : wpAny (model P w) A (if p = true then (hashByValue 8 (.ref b) >>= f) else (pure true >>= f)) Q E s := by
  cases p with
  | true => rw [if_pos rfl]; exact wpAny_bind (hashBy_tup hk h)
  | false => rw [if_neg (by simp)]; exact wpAny_bind (wpAny_pure (h true))
theorem byVal3 {α : Type} {k : List Key} {b : Addr} {p : Bool} {f : Bool → Sem α} {Q : α → Shared → Prop} (hk : IsT P w s.heap k b) (h : ∀ r, wpAny (model P w) A (f r) Q E s) : wpAny (model P w) A (if p = true then (hashByValue 8 (.ref b) >>= f) else f true) Q E s := by
  cases p with
  | true => rw [if_pos rfl]; exact wpAny_bind (hashBy_tup hk h)
  | false => rw [if_neg (by simp)]; exact h true
theorem tab_plain {t : SetTable} {hs : List Int} {b : Bool} (T : TabOk t hs) : TabOk { t with plain := b } hs := ⟨T.ris, T.dm, T.sz, T.mok, T.bd, T.reach⟩
/-- a search among tuples shows nothing -/
theorem seen_tup {k : List Key} {b : Addr} {Q : Bool → Shared → Prop} (hk : IsT P w s.heap k b) {ys : List Value} (hy : ∀ y ∈ ys, ∃ k' c, y = Value.ref c ∧ IsT P w s.heap k' c) (h : Q false s) :
    wpAny (model P w) A (searchCouldBeSeen (.ref b) ys) Q E s := by
  unfold searchCouldBeSeen
  refine wpAny_bind ?_
  refine wpAny_forIn_list _ (fun rest r s' => r.1 = none ∧ s' = s ∧ ∀ y ∈ rest, ∃ k' c, y = Value.ref c ∧ IsT P w s.heap k' c) _ ?_ ?_ _ _ ⟨rfl, rfl, hy⟩
  · rintro v rest r s' ⟨hr, rfl, hall⟩
    obtain ⟨k', c, rfl, hc⟩ := hall v List.mem_cons_self
    have rest' : ∀ y ∈ rest, ∃ k' c, y = Value.ref c ∧ IsT P w s'.heap k' c := fun u hu' => hall u (List.mem_cons_of_mem _ hu')
    dsimp only
    by_cases hv : (b == c || (carriedByValue (.ref b) && carriedByValue (.ref c))) = true
    · refine wp_if_pos hv ?_
      exact wpAny_pure ⟨rfl, rfl, rest'⟩
    · refine wp_if_neg hv ?_
      refine wpAny_bind (wpAny_eqIsQuiet_tuple hk ?_)
      simp only [Bool.not_true, Bool.false_eq_true, if_false]
      refine wpAny_bind (wpAny_eqIsQuiet_tuple hc ?_)
      simp only [Bool.not_true, Bool.false_eq_true, if_false]
      refine wpAny_bind (ofAClass_tup hk ?_)
      simp only [Bool.false_eq_true, if_false]
      refine wpAny_bind (ofAClass_tup hc ?_)
      simp only [Bool.false_eq_true, if_false]
      exact wpAny_pure ⟨rfl, rfl, rest'⟩
  · rintro ⟨r1, r2⟩ s' ⟨hr, rfl, _⟩
    simp only at hr
    subst hr
    exact wpAny_pure h
/-! ### the set of tuples -/
def rowsOf (P : Program) (w : World) (L : List (Addr × List Key)) : List (Int × Value) := L.map fun p => (thash P w p.2, Value.ref p.1)
structure SetTR (P : Program) (w : World) (h : Heap) (a : Addr) (L : List (Addr × List Key)) (es : Array (Int × Value)) (ep : Nat) (t : SetTable) : Prop where
  ob : ∃ o, h.get? a = some o ∧ o.ExactSet ∧ o.data = .set es ep t
  rows : es.toList = rowsOf P w L
  tab : TabOk t (L.map fun p => thash P w p.2)
  nd : (L.map (·.2)).Nodup
  tup : ∀ p ∈ L, IsT P w h p.2 p.1
  led : w.params.followText "set-order" = true ∨ t.led = true
  room : L.length * 5 < t.mask * 3
  few : L.length < 64
variable {a : Addr} {L : List (Addr × List Key)} {es : Array (Int × Value)} {ep : Nat} {t : SetTable}
theorem SetTR.size (R : SetTR P w s.heap a L es ep t) : es.size = L.length := by
  have h := congrArg List.length R.rows
  unfold rowsOf at h
  rw [Array.length_toList, List.length_map] at h
  exact h
theorem SetTR.fits (R : SetTR P w s.heap a L es ep t) : t.fits es.size = true := by
  have h1 := R.tab.sz
  rw [List.length_map] at h1
  have h2 := R.size
  have h3 := R.room
  unfold SetTable.fits SetTable.fill
  rw [R.tab.dm, Bool.and_eq_true, beq_iff_eq, decide_eq_true_eq]
  show t.place.size = es.size ∧ t.place.size + 0 ≤ t.mask
  omega
theorem SetTR.entry (R : SetTR P w s.heap a L es ep t) {i : Nat} {p : Addr × List Key} (h : L[i]? = some p) : es[i]? = some (thash P w p.2, Value.ref p.1) := by
  rw [← Array.getElem?_toList, R.rows]
  unfold rowsOf
  rw [List.getElem?_map, h] <;> rfl
theorem SetTR.gw (R : SetTR P w s.heap a L es ep t) : ¬ t.gaveWay = true := by
  unfold SetTable.gaveWay
  rw [mask_odd R.tab.mok]
  decide
theorem sameMem (t : SetTable) : t.sameMemory t.moves t.mask = some true := by
  unfold SetTable.sameMemory
  rw [if_pos (beq_self_eq_true _)]
/-- THE SEARCH: from the c-th step of the way on -/
theorem search_from (R : SetTR P w s.heap a L es ep t) {x : Addr} {k : List Key} (hx : IsT P w s.heap k x) (hu : A.units < cLine) {K : Nat} (hKf : K < 10 * SetTable.turns t.mask)
    (hK : way t.mask (thash P w k) K ∉ t.place.toList) (hKb : ∀ c, c < K → way t.mask (thash P w k) c ∈ t.place.toList) {Q : SetFound → Shared → Prop}
    (hin : k ∈ L.map (·.2) → Q (.there none) s) (hout : k ∉ L.map (·.2) → Q (.free (way t.mask (thash P w k) K) false) s) :
    ∀ (f c : Nat) (stand : Option SetTable.Probe), stand.getD (t.probeStart (thash P w k)) = nth t.mask (runAt t.mask (SetTable.bits (thash P w k) % (t.mask + 1)) (SetTable.bits (thash P w k))) c → c ≤ K → K - c < f →
      (∀ (i : Nat) p, L[i]? = some p → p.2 = k → ∃ c', c ≤ c' ∧ c' < K ∧ t.place.toList[i]? = some (way t.mask (thash P w k) c')) →
      wpAny (model P w) A (setSearchFrom a (.ref x) (thash P w k) true f stand) Q E s
  | 0, c, stand, _, _, hf, _ => absurd hf (Nat.not_lt_zero _)
  | f + 1, c, stand, hst, hc, hf, hre => by
    obtain ⟨o, ho, hex, hd⟩ := R.ob
    rw [setSearchFrom_succ]
    refine wpAny_bind (wpAny_setState_of ho hd R.fits ?_)
    dsimp only
    refine wp_if_neg R.gw ?_
    try refine wpAny_bind (wpAny_pure ?_)
    have hnd : (nth t.mask (runAt t.mask (SetTable.bits (thash P w k) % (t.mask + 1)) (SetTable.bits (thash P w k))) c).dummy = none := by
      have key : ∀ (n : Nat) (p : SetTable.Probe), p.dummy = none → (nth t.mask p n).dummy = none := by
        intro n
        induction n with
        | zero => intro p h; exact h
        | succ n ih =>
          intro p h
          refine ih (adv t.mask p) ?_
          unfold adv
          split <;> exact h
      exact key c _ rfl
    have sh : ∀ q, nth t.mask (nth t.mask (runAt t.mask (SetTable.bits (thash P w k) % (t.mask + 1)) (SetTable.bits (thash P w k))) c) q = nth t.mask (runAt t.mask (SetTable.bits (thash P w k) % (t.mask + 1)) (SetTable.bits (thash P w k))) (c + q) := fun q => (nth_add t.mask c _ q).symm
    have e1 : ∀ q, (nth t.mask (nth t.mask (runAt t.mask (SetTable.bits (thash P w k) % (t.mask + 1)) (SetTable.bits (thash P w k))) c) q).j = way t.mask (thash P w k) (c + q) := fun q => congrArg SetTable.Probe.j (sh q)
    have spec := go_spec t R.tab.ris R.tab.dm (fun i => (es[i]?.map (·.1)).getD 0) (thash P w k) (10 * SetTable.turns t.mask) (K - c) _ hnd (by omega)
      (fun q hq => by rw [e1]; exact hKb (c + q) (by omega)) (by rw [e1, show c + (K - c) = K by omega]; exact hK)
    have hashAt : ∀ (i : Nat) p, L[i]? = some p → (fun i => (es[i]?.map (·.1)).getD 0) i = thash P w p.2 := fun i p hp => by
      show (es[i]?.map (·.1)).getD 0 = _
      rw [R.entry hp] <;> rfl
    rcases spec with ⟨q, i, hq, hi, hh, hno, hpr⟩ | ⟨hno, hpr⟩
    · -- a candidate
      have hpr' : t.probe (fun i => (es[i]?.map (·.1)).getD 0) (thash P w k) (stand.getD (t.probeStart (thash P w k))) = some (.candidate (way t.mask (thash P w k) (c + q)) i (nth t.mask (runAt t.mask (SetTable.bits (thash P w k) % (t.mask + 1)) (SetTable.bits (thash P w k))) (c + (q + 1)))) := by
        rw [hst, ← e1, ← sh]
        exact hpr
      rw [hpr']
      dsimp only
      rw [e1] at hi
      -- the entry
      have hil : i < L.length := by
        have h1 : i < t.place.toList.length := (List.getElem?_eq_some_iff.mp hi).1
        have h2 := R.tab.sz
        rw [List.length_map] at h2
        rw [Array.length_toList] at h1
        omega
      have hp : L[i]? = some L[i] := List.getElem?_eq_getElem hil
      generalize hpe : L[i] = p at hp
      have hmem : p ∈ L := List.mem_of_getElem? hp
      have hpt := R.tup p hmem
      have rest : wpAny (model P w) A (searchRest a (.ref x) (thash P w k) true f es t (way t.mask (thash P w k) (c + q)) i (nth t.mask (runAt t.mask (SetTable.bits (thash P w k) % (t.mask + 1)) (SetTable.bits (thash P w k))) (c + (q + 1)))) Q E s := by
        unfold searchRest
        rw [R.entry hp]
        dsimp only
        refine wpAny_bind (wpAny_holding (wpAny_eqBool_tuple hu hpt hx ?_))
        refine wpAny_bind (wpAny_setState_of ho hd R.fits ?_)
        dsimp only
        by_cases hkk : p.2 = k
        · refine wp_if_pos (by simp [hkk]) ?_
          refine wpAny_pure (hin ?_)
          exact List.mem_map.mpr ⟨p, hmem, hkk⟩
        · refine wp_if_neg (by simp [hkk]) ?_
          try refine wpAny_bind (wpAny_pure ?_)
          rw [sameMem]
          dsimp only
          have hsl : t.slot (way t.mask (thash P w k) (c + q)) = .live i := slot_live R.tab.ris hi
          simp only [if_true, hsl, R.entry hp]
          refine wpAny_bind (wpAny_isSame_ref_self (wpAny_bind (wpAny_pure ?_)))
          simp only [if_true]
          refine wp_if_neg (by simp [hkk]) ?_
          refine search_from R hx hu hKf hK hKb hin hout f (c + (q + 1)) _ rfl (by omega) (by omega) fun i0 p0 h0 hk0 => ?_
          obtain ⟨c', a1, a2, a3⟩ := hre i0 p0 h0 hk0
          refine ⟨c', ?_, a2, a3⟩
          -- it isn't passed
          rcases Nat.lt_or_ge c' (c + q) with z | z
          · exfalso
            refine hno (c' - c) i0 (by omega) (by rw [e1, show c + (c' - c) = c' by omega]; exact a3) ?_
            exact (hashAt i0 p0 h0).trans (congrArg (thash P w) hk0)
          · rcases Nat.lt_or_ge (c + q) c' with y | y
            · omega
            · exfalso
              have ec : c' = c + q := Nat.le_antisymm y z
              rw [ec] at a3
              have s0 := slot_live R.tab.ris a3
              rw [hsl] at s0
              injection s0 with s0
              rw [← s0, hp] at h0
              exact hkk ((congrArg Prod.snd (Option.some.inj h0)).trans hk0)
      by_cases hl : t.led = true
      · refine wp_if_neg (by simp [hl]) ?_
        try refine wpAny_bind (wpAny_pure ?_)
        exact rest
      · refine wp_if_pos (by simp [hl]) ?_
        refine wpAny_bind (seen_tup hx (fun y hy => ?_) ?_)
        · obtain ⟨e, he, ee⟩ := List.mem_map.mp hy
          have he1 : e ∈ es ∧ e.1 = thash P w k := by simpa using he
          have he2 : e ∈ es.toList := by simpa using he1.1
          rw [R.rows] at he2
          obtain ⟨p2, hp2, e2⟩ := List.mem_map.mp he2
          refine ⟨p2.2, p2.1, ?_, R.tup p2 hp2⟩
          rw [← ee, ← e2]
        · refine wp_if_neg (by decide) ?_
          try refine wpAny_bind (wpAny_pure ?_)
          exact rest
    · -- the empty slot
      have hpr' : t.probe (fun i => (es[i]?.map (·.1)).getD 0) (thash P w k) (stand.getD (t.probeStart (thash P w k))) = some (.empty (way t.mask (thash P w k) K) none) := by
        have e2 : way t.mask (thash P w k) K = (nth t.mask (nth t.mask (runAt t.mask (SetTable.bits (thash P w k) % (t.mask + 1)) (SetTable.bits (thash P w k))) c) (K - c)).j := by
          rw [e1, show c + (K - c) = K by omega]
        rw [hst, e2]
        exact hpr
      rw [hpr']
      dsimp only
      refine wpAny_pure (hout fun hm => ?_)
      obtain ⟨p0, h0, hk0⟩ := List.mem_map.mp hm
      obtain ⟨i0, hi0, e0⟩ := List.getElem_of_mem h0
      have h00 : L[i0]? = some p0 := by rw [List.getElem?_eq_getElem hi0, e0]
      obtain ⟨c', a1, a2, a3⟩ := hre i0 p0 h00 hk0
      refine hno (c' - c) i0 (by omega) (by rw [e1, show c + (c' - c) = c' by omega]; exact a3) ?_
      exact (hashAt i0 p0 h00).trans (congrArg (thash P w) hk0)
/-- the search as adding asks for it -/
theorem search_at (R : SetTR P w s.heap a L es ep t) {x : Addr} {k : List Key} (hx : IsT P w s.heap k x) (hu : A.units < cLine) {Q : SetFound → Shared → Prop}
    (hin : k ∈ L.map (·.2) → Q (.there none) s)
    (hout : ∀ K, k ∉ L.map (·.2) → way t.mask (thash P w k) K ∉ t.place.toList → (∀ c, c < K → way t.mask (thash P w k) c ∈ t.place.toList) → Q (.free (way t.mask (thash P w k) K) false) s) :
    wpAny (model P w) A (setSearch a (.ref x) (thash P w k) true) Q E s := by
  have hroom := R.room
  obtain ⟨K, hKf, hK, hKb⟩ := R.tab.first (by rw [List.length_map]; omega) (thash P w k)
  have hbig : K < 100000 := by
    have : 10 * SetTable.turns t.mask ≤ 1420 := by
      unfold SetTable.turns
      rcases R.tab.mok with e | e | e <;> omega
    omega
  unfold setSearch
  refine search_from R hx hu hKf hK hKb hin (fun hn => hout K hn hK hKb) 100000 0 none rfl (Nat.zero_le _) (by omega) fun i p hp hk => ?_
  have hi : (L.map fun p => thash P w p.2)[i]? = some (thash P w k) := by rw [List.getElem?_map, hp, ← hk] <;> rfl
  have hil : i < t.place.toList.length := by
    have h1 : i < L.length := (List.getElem?_eq_some_iff.mp hp).1
    have h2 := R.tab.sz
    rw [List.length_map] at h2
    rw [Array.length_toList]
    omega
  have hj := List.getElem?_eq_getElem hil
  obtain ⟨c, hc, e⟩ := R.tab.before hK hi hj
  exact ⟨c, Nat.zero_le _, hc, by rw [hj, e]⟩
end
theorem setAddHashedIn_succ (a : Addr) (x : Value) (h : Int) (fuel : Nat) : setAddHashedIn a x h (fuel + 1) = (do
    let (es₀, _, t₀) ← setState a
    if byScan x es₀ then
      match ← setAddByScan a x h es₀ t₀ with
      | some added => return added
      | none => return ← setAddHashedIn a x h fuel
    let .free slot wasDummy ← setSearch a x h (adding := true) | return false
    let (es, _, t) ← setState a
    let (t, p) := t.put slot
    let byValue ← if t.plain then hashByValue 8 x else pure true
    let t := if byValue then t else { t with plain := false }
    storeSet a (SetTable.insertAt es p (h, x)) t
    if !wasDummy && t.tooFull then setRelay a (SetTable.grown (es.size + 1))
    return true) := by rfl
theorem setRelay_eq (a : Addr) (wanted : Nat) : setRelay a wanted = (do
    let (es, _, t) ← setState a
    if SetTable.sizeAbove wanted > sizeLine then unsupported "set:memory"
    let (es, t) ← (do
      let some (t, order) := t.relaid (es.map (·.1)) wanted | unsupported "internal:set-table-without-room"
      let es' := order.filterMap (es[·]?)
      if es'.size != es.size then unsupported "internal:set-table-lost-an-element"
      pure (es', t) : Sem (Array (Int × Value) × SetTable))
    storeSet a es t) := by rfl
section
variable {P : Program} {w : World} {A : Around} {E : Value → Shared → Prop} {s : Shared}
/-- a tuple isn't the set -/
theorem isT_same {h h' : Heap} {k : List Key} {a b : Addr} {o : Obj} {es : Array (Int × Value)} {ep : Nat} {t : SetTable} (hb : IsT P w h k b) (ho : h.get? a = some o) (hd : o.data = .set es ep t) (hs : Heap.SameBut a h h') : IsT P w h' k b := by
  obtain ⟨o', items, n, ho', hc, hd', hi⟩ := hb
  have hne : b ≠ a := by
    rintro rfl
    obtain rfl : o' = o := Option.some.inj (ho'.symm.trans ho)
    rw [hd] at hd'
    exact nomatch hd'
  exact ⟨o', items, n, (hs.2 b hne).trans ho', hc, hd', hi⟩
theorem rows_put (L : List (Addr × List Key)) (p : Nat) (x : Addr) (k : List Key) : rowsOf P w (L.take p ++ (x, k) :: L.drop p) = (rowsOf P w L).take p ++ (thash P w k, Value.ref x) :: (rowsOf P w L).drop p := by
  unfold rowsOf
  rw [List.map_append, List.map_cons, List.map_take, List.map_drop]
theorem put_perm {α : Type} (L : List α) (p : Nat) (x : α) : (L.take p ++ x :: L.drop p).Perm (x :: L) := by
  have h : (L.take p ++ x :: L.drop p).Perm (x :: (L.take p ++ L.drop p)) := List.perm_middle
  rw [List.take_append_drop] at h
  exact h
theorem order_rows (L : List (Addr × List Key)) (es : Array (Int × Value)) (order : Array Nat) (hr : es.toList = rowsOf P w L) (hp : order.toList.Perm (List.range L.length)) :
    ∃ L2, (order.filterMap (es[·]?)).toList = rowsOf P w L2 ∧ L2.Perm L ∧ (L2.map fun p => thash P w p.2) = order.toList.map fun i => (es.map (·.1)).getD i 0 := by
  have hsz : es.size = L.length := by
    have h := congrArg List.length hr
    unfold rowsOf at h
    rw [Array.length_toList, List.length_map] at h
    exact h
  have ent : ∀ i (h : i < L.length), es[i]? = some (thash P w (L[i]).2, Value.ref (L[i]).1) := fun i h => by
    rw [← Array.getElem?_toList, hr]
    unfold rowsOf
    rw [List.getElem?_map, List.getElem?_eq_getElem h] <;> rfl
  have key : ∀ l : List Nat, (∀ i ∈ l, i < L.length) → ∃ L2 : List (Addr × List Key), l.filterMap (fun i => es[i]?) = rowsOf P w L2 ∧ L2 = l.filterMap (fun i => L[i]?) ∧ (L2.map fun p => thash P w p.2) = l.map fun i => (es.map (·.1)).getD i 0 := by
    intro l
    induction l with
    | nil => intro _; exact ⟨[], rfl, rfl, rfl⟩
    | cons i l ih =>
      intro hl
      have hi := hl i List.mem_cons_self
      obtain ⟨L2, e1, e2, e3⟩ := ih fun j hj => hl j (List.mem_cons_of_mem _ hj)
      refine ⟨L[i] :: L2, ?_, ?_, ?_⟩
      · rw [List.filterMap_cons_some (ent i hi), e1] <;> rfl
      · rw [List.filterMap_cons_some (List.getElem?_eq_getElem hi), e2]
      · rw [List.map_cons, List.map_cons, e3]
        have hi2 : i < (es.map (·.1)).size := by rw [Array.size_map, hsz]; exact hi
        have e4 : (es.map (·.1)).getD i 0 = thash P w (L[i]).2 := by
          have e5 : (es.map (·.1))[i]? = some (thash P w (L[i]).2) := by rw [Array.getElem?_map, ent i hi] <;> rfl
          simp [Array.getD_eq_getD_getElem?, e5]
        rw [e4]
  obtain ⟨L2, e1, e2, e3⟩ := key order.toList fun i hi => List.mem_range.mp (hp.mem_iff.mp hi)
  refine ⟨L2, by first | (rw [Array.toList_filterMap]; exact e1) | simpa using e1, ?_, e3⟩
  have h1 : L2.Perm ((List.range L.length).filterMap fun i => L[i]?) := by
    rw [e2]
    exact hp.filterMap _
  have h2 : (List.range L.length).filterMap (fun i => L[i]?) = L := by
    have key2 : ∀ n, n ≤ L.length → (List.range n).filterMap (fun i => L[i]?) = L.take n := by
      intro n
      induction n with
      | zero => intro _; rfl
      | succ n ih =>
        intro hn
        have hlt : n < L.length := hn
        rw [List.range_succ, List.filterMap_append, ih (Nat.le_of_lt hlt), List.take_succ, List.getElem?_eq_getElem hlt]
        rw [List.filterMap_cons_some (List.getElem?_eq_getElem hlt)] <;> rfl
    rw [key2 L.length (Nat.le_refl _), List.take_length]
  rw [h2] at h1
  exact h1
variable {a : Addr} {L : List (Addr × List Key)} {es : Array (Int × Value)} {ep : Nat} {t : SetTable}
/-- the table laid anew, larger -/
theorem relay_at {o : Obj} (ho : s.heap.get? a = some o) (hex : o.ExactSet) (hd : o.data = .set es ep t) (hrows : es.toList = rowsOf P w L) (hsz : t.place.size = es.size) (hdm : t.dummies = #[]) (hfl : es.size ≤ t.mask)
    (nd : (L.map (·.2)).Nodup) (tup : ∀ p ∈ L, IsT P w s.heap p.2 p.1) (ld : w.params.followText "set-order" = true ∨ t.led = true) (few : L.length < 64) {wanted M : Nat}
    (hw : SetTable.sizeAbove wanted - 1 = M) (hM : MaskOk M) (hw2 : SetTable.sizeAbove wanted ≤ 128) (hn : L.length * 5 < M * 3) {Q : Unit → Shared → Prop}
    (hQ : ∀ h' L' es' ep' t', Heap.SameBut a s.heap h' → SetTR P w h' a L' es' ep' t' → L'.Perm L → Q () { s with heap := h' }) : wpAny (model P w) A (setRelay a wanted) Q E s := by
  have hsl : es.size = L.length := by
    have h := congrArg List.length hrows
    unfold rowsOf at h
    rw [Array.length_toList, List.length_map] at h
    exact h
  have hfits : t.fits es.size = true := by
    unfold SetTable.fits SetTable.fill
    rw [hdm, Bool.and_eq_true, beq_iff_eq, decide_eq_true_eq]
    show t.place.size = es.size ∧ t.place.size + 0 ≤ t.mask
    omega
  obtain ⟨t', order, e, hp, T, em, el, ep', ed⟩ := relaid_ok t (hs := es.map (·.1)) (wanted := wanted) hw hM (by rw [Array.size_map, hsl]; omega)
  rw [Array.size_map, hsl] at hp
  obtain ⟨L2, r1, r2, r3⟩ := order_rows L es order hrows hp
  rw [← r3] at T
  have hs2 : (order.filterMap (es[·]?)).size = es.size := by
    have h := congrArg List.length r1
    unfold rowsOf at h
    rw [Array.length_toList, List.length_map, r2.length_eq] at h
    rw [h, hsl]
  rw [setRelay_eq]
  refine wpAny_bind (wpAny_setState_of ho hd hfits ?_)
  dsimp only
  refine wp_if_neg (by rw [sizeLine_eq]; omega) ?_
  try refine wpAny_bind (wpAny_pure ?_)
  rw [e]
  dsimp only
  refine wpAny_bind ?_
  refine wp_if_neg (by rw [hs2]; simp) ?_
  try refine wpAny_bind (wpAny_pure ?_)
  refine wpAny_pure ?_
  dsimp only
  refine wpAny_storeSet_of ho hd ?_ (by rw [hs2, hsl, sizeLine_eq]; omega)
  have sb : Heap.SameBut a s.heap (s.heap.update a (Obj.putSet (order.filterMap (es[·]?)) t')) := Heap.SameBut.update ..
  refine hQ _ L2 (order.filterMap (es[·]?)) (ep + 1) t' sb ?_ r2
  refine ⟨⟨_, store_at ho hd, ⟨hex.1, hex.2.1, hex.2.2⟩, rfl⟩, r1, T, ?_, fun p hpm => isT_same (tup p (r2.mem_iff.mp hpm)) ho hd sb, by rw [el]; exact ld, ?_, by rw [r2.length_eq]; exact few⟩
  · exact (r2.map (·.2)).nodup_iff.mpr nd
  · rw [r2.length_eq, em]
    exact hn
/-- ADDING -/
theorem add_at (R : SetTR P w s.heap a L es ep t) {x : Addr} {k : List Key} (hx : IsT P w s.heap k x) (hu : A.units < cLine) (hfew : L.length + 1 < 64) {Q : Bool → Shared → Prop}
    (hQ : ∀ b h' L' es' ep' t', Heap.SameBut a s.heap h' → SetTR P w h' a L' es' ep' t' → (k ∈ L.map (·.2) → L' = L) → (k ∉ L.map (·.2) → L'.Perm ((x, k) :: L)) → Q b { s with heap := h' }) :
    wpAny (model P w) A (setAddHashed a (.ref x) (thash P w k)) Q E s := by
  obtain ⟨o, ho, hex, hd⟩ := R.ob
  have hsl := R.size
  have hroom := R.room
  unfold setAddHashed
  refine wpAny_holding ?_
  rw [show (100000 : Nat) = 99999 + 1 from rfl, setAddHashedIn_succ]
  refine wpAny_bind (wpAny_setState_of ho hd R.fits ?_)
  dsimp only
  refine wp_if_neg (by simp [byScan, Value.scannable]) ?_
  try refine wpAny_bind (wpAny_pure ?_)
  refine wpAny_bind (search_at R hx hu (fun hm => ?_) fun K hm hK hb => ?_)
  · dsimp only
    exact wpAny_pure (hQ false s.heap L es ep t (Heap.SameBut.refl a s.heap) R (fun _ => rfl) fun z => absurd hm z)
  · dsimp only
    refine wpAny_bind (wpAny_setState_of ho hd R.fits ?_)
    dsimp only
    obtain ⟨q1, q2, q3, q4, q5, q6, q7, q8, q9⟩ := R.tab.put hK hb
    generalize hpt : t.put (way t.mask (thash P w k) K) = pt at q1 q3 q4 q5 q6 q7 q8 q9 ⊢
    obtain ⟨t1, p⟩ := pt
    dsimp only at q1 q3 q4 q5 q6 q7 q8 q9 ⊢
    subst q1
    first | refine byVal2 hx fun r => ?_ | refine byVal3 hx fun r => ?_
    have lift : ∀ hs : List Int, TabOk t1 hs → TabOk (if r = true then t1 else { t1 with plain := false }) hs := fun hs T => by
      cases r with
      | true => exact T
      | false => exact tab_plain T
    have q3' := lift _ q3
    have q4' : (if r = true then t1 else { t1 with plain := false }).mask = t.mask := by cases r <;> exact q4
    have q5' : (if r = true then t1 else { t1 with plain := false }).led = t.led := by cases r <;> exact q5
    have q9' := q9
    have q9 : (if r = true then t1 else { t1 with plain := false }).fill = t1.fill := by cases r <;> rfl
    rw [q9'] at q9
    clear lift q3 q4 q5 q6 q7 q8 q9'
    have q3 := q3'
    have q4 := q4'
    have q5 := q5'
    clear q3' q4' q5'
    generalize (if r = true then t1 else { t1 with plain := false }) = t1 at q3 q4 q5 q9 ⊢
    have hin : (SetTable.insertAt es (SetTable.below t.place (way t.mask (thash P w k) K)) (thash P w k, Value.ref x)).toList = rowsOf P w (L.take (SetTable.below t.place (way t.mask (thash P w k) K)) ++ (x, k) :: L.drop (SetTable.below t.place (way t.mask (thash P w k) K))) := by
      rw [SetTable.toList_insertAt, rows_put, R.rows]
    generalize hpp : SetTable.below t.place (way t.mask (thash P w k) K) = p at q2 q3 hin ⊢
    have pm := put_perm L p (x, k)
    have hlen : (L.take p ++ (x, k) :: L.drop p).length = L.length + 1 := pm.length_eq
    have hhs : (L.take p ++ (x, k) :: L.drop p).map (fun p => thash P w p.2) = (L.map fun p => thash P w p.2).take p ++ thash P w k :: (L.map fun p => thash P w p.2).drop p := by
      rw [List.map_append, List.map_cons, List.map_take, List.map_drop]
    rw [← hhs] at q3
    have nd1 : ((L.take p ++ (x, k) :: L.drop p).map (·.2)).Nodup := by
      refine (pm.map (·.2)).nodup_iff.mpr ?_
      rw [List.map_cons]
      exact List.nodup_cons.mpr ⟨hm, R.nd⟩
    have hes : (SetTable.insertAt es p (thash P w k, Value.ref x)).size = L.length + 1 := by
      have h := congrArg List.length hin
      unfold rowsOf at h
      rw [Array.length_toList, List.length_map, hlen] at h
      exact h
    generalize SetTable.insertAt es p (thash P w k, Value.ref x) = es1 at hin hes ⊢
    generalize L.take p ++ (x, k) :: L.drop p = L1 at pm hlen q3 nd1 hin
    refine wpAny_bind (wpAny_storeSet_of ho hd ?_ (by rw [hes, sizeLine_eq]; omega))
    have sb : Heap.SameBut a s.heap (s.heap.update a (Obj.putSet es1 t1)) := Heap.SameBut.update ..
    have ho1 := store_at (es' := es1) (t' := t1) ho hd
    generalize s.heap.update a (Obj.putSet es1 t1) = h1 at sb ho1 ⊢
    have tup1 : ∀ p ∈ L1, IsT P w h1 p.2 p.1 := fun p hp => by
      rcases List.mem_cons.mp (pm.mem_iff.mp hp) with e | hp
      · rw [e]; exact isT_same hx ho hd sb
      · exact isT_same (R.tup p hp) ho hd sb
    have ld1 : w.params.followText "set-order" = true ∨ t1.led = true := by rw [q5]; exact R.led
    by_cases hf : t1.tooFull = true
    · first
        | (refine wpAny_bind ?_; refine wp_if_pos (by simp [hf]) ?_)
        | (refine wp_if_pos (by simp [hf]) ?_; refine wpAny_bind ?_)
      have hfull : (L.length + 1) * 5 ≥ t1.mask * 3 := by
        have h := hf
        unfold SetTable.tooFull at h
        rw [decide_eq_true_eq, q9, List.length_map] at h
        exact h
      rw [hsl]
      have hsz1 : t1.place.size = es1.size := by
        have h := q3.sz
        rw [List.length_map, hlen] at h
        rw [h, hes]
      have cases2 : (t.mask = 7 ∧ L.length = 4) ∨ (t.mask = 31 ∧ L.length = 18) := by
        rcases R.tab.mok with e | e | e
        · left; rw [q4, e] at hfull; rw [e] at hroom; exact ⟨e, by omega⟩
        · right; rw [q4, e] at hfull; rw [e] at hroom; exact ⟨e, by omega⟩
        · exfalso; rw [q4, e] at hfull; omega
      have go : ∀ M, SetTable.sizeAbove (SetTable.grown (L.length + 1)) - 1 = M → MaskOk M → SetTable.sizeAbove (SetTable.grown (L.length + 1)) ≤ 128 → (L.length + 1) * 5 < M * 3 →
          wpAny (model P w) A (setRelay a (SetTable.grown (L.length + 1))) (fun _ s' => wpAny (model P w) A (pure true) Q E s') E { s with heap := h1 } := fun M h1' h2' h3' h4' => by
        refine relay_at (s := { s with heap := h1 }) ho1 ⟨hex.1, hex.2.1, hex.2.2⟩ rfl hin hsz1 q3.dm (by rw [hes, q4]; rcases cases2 with ⟨e, e2⟩ | ⟨e, e2⟩ <;> omega) nd1 tup1 ld1 (by rw [hlen]; exact hfew) h1' h2' h3' (by rw [hlen]; exact h4') ?_
        intro h2 L2 es2 ep2 t2 sb2 R2 pm2
        refine wpAny_pure (hQ true h2 L2 es2 ep2 t2 (sb.trans sb2) R2 (fun z => absurd z hm) fun _ => pm2.trans pm)
      rcases cases2 with ⟨_, e2⟩ | ⟨_, e2⟩
      · refine go 31 (by rw [e2, size_20]) (.inr (.inl rfl)) (by rw [e2, size_20]; decide) (by omega)
      · refine go 127 (by rw [e2, size_76]) (.inr (.inr rfl)) (by rw [e2, size_76]; decide) (by omega)
    · first
        | refine wp_if_neg (by simp [hf]) ?_
        | (refine wpAny_bind ?_; refine wp_if_neg (by simp [hf]) ?_; refine wpAny_pure ?_)
      refine wpAny_pure (hQ true h1 L1 es1 (ep + 1) t1 sb ⟨⟨_, ho1, ⟨hex.1, hex.2.1, hex.2.2⟩, rfl⟩, hin, q3, nd1, tup1, ld1, ?_, by rw [hlen]; exact hfew⟩ (fun z => absurd z hm) fun _ => pm)
      have h := hf
      unfold SetTable.tooFull at h
      rw [decide_eq_true_eq, q9, List.length_map] at h
      rw [hlen]
      omega
end
theorem nodup_of_map {α β : Type} {f : α → β} {l : List α} (h : (l.map f).Nodup) : l.Nodup := List.Pairwise.of_map f (fun _ _ hne e => hne (congrArg f e)) h
/-- what the set has got from the first i items -/
structure Got (ks : List (Addr × List Key)) (i : Nat) (L : List (Addr × List Key)) : Prop where
  sub : ∀ p ∈ L, p ∈ ks.take i
  all : ∀ p ∈ ks.take i, p.2 ∈ L.map (·.2)
  len : L.length ≤ i
theorem Got.zero (ks : List (Addr × List Key)) : Got ks 0 [] := ⟨fun p h => (by cases h), fun p h => (by simp at h), Nat.le_refl _⟩
theorem take_next {α : Type} {l : List α} {i : Nat} {x : α} (h : l[i]? = some x) : l.take (i + 1) = l.take i ++ [x] := by
  rw [List.take_succ, h] <;> rfl
theorem Got.same {ks L : List (Addr × List Key)} {i : Nat} {x : Addr × List Key} (g : Got ks i L) (h : ks[i]? = some x) (hm : x.2 ∈ L.map (·.2)) : Got ks (i + 1) L := by
  refine ⟨fun p hp => ?_, fun p hp => ?_, Nat.le_succ_of_le g.len⟩
  · rw [take_next h]
    exact List.mem_append_left _ (g.sub p hp)
  · rw [take_next h] at hp
    rcases List.mem_append.mp hp with z | z
    · exact g.all p z
    · rw [List.mem_singleton.mp z]; exact hm
theorem Got.more {ks L L' : List (Addr × List Key)} {i : Nat} {x : Addr × List Key} (g : Got ks i L) (h : ks[i]? = some x) (pm : L'.Perm (x :: L)) : Got ks (i + 1) L' := by
  refine ⟨fun p hp => ?_, fun p hp => ?_, ?_⟩
  · rw [take_next h]
    rcases List.mem_cons.mp (pm.mem_iff.mp hp) with e | z
    · rw [e]; exact List.mem_append_right _ (List.mem_singleton.mpr rfl)
    · exact List.mem_append_left _ (g.sub p z)
  · rw [(pm.map (·.2)).mem_iff, List.map_cons]
    rw [take_next h] at hp
    rcases List.mem_append.mp hp with z | z
    · exact List.mem_cons_of_mem _ (g.all p z)
    · rw [List.mem_singleton.mp z]; exact List.mem_cons_self
  · rw [pm.length_eq, List.length_cons]
    exact Nat.succ_le_succ g.len
section
variable {P : Program} {w : World} {A : Around} {E : Value → Shared → Prop} {s : Shared}
theorem isT_keep {h h' : Heap} {k : List Key} {b : Addr} (x : IsT P w h k b) (hk : ∀ c o, h.get? c = some o → h'.get? c = some o) : IsT P w h' k b := by
  obtain ⟨o, items, n, ho, r⟩ := x
  exact ⟨o, items, n, hk b o ho, r⟩
theorem SetTR.keep {h h' : Heap} {a : Addr} {L : List (Addr × List Key)} {es : Array (Int × Value)} {ep : Nat} {t : SetTable} (R : SetTR P w h a L es ep t) (ha : ∀ o, h.get? a = some o → h'.get? a = some o) (ht : ∀ p ∈ L, IsT P w h' p.2 p.1) : SetTR P w h' a L es ep t := by
  obtain ⟨o, ho, r⟩ := R.ob
  exact ⟨⟨o, ha o ho, r⟩, R.rows, R.tab, R.nd, ht, R.led, R.room, R.few⟩
/-- a new set -/
theorem setTR_fresh {h : Heap} {a : Addr} (ho : h.get? a = some { cls := .type "set", dict := none, data := .set #[] 0 (.fresh 0 0 (!w.params.followText "set-order")) }) : SetTR P w h a [] #[] 0 (.fresh 0 0 (!w.params.followText "set-order")) where
  ob := ⟨_, ho, ⟨rfl, rfl, rfl⟩, rfl⟩
  rows := rfl
  tab := ⟨List.Pairwise.nil, rfl, rfl, .inl rfl, fun x hx => (by cases hx), fun i h j hi => (by simp at hi)⟩
  nd := List.nodup_nil
  tup := fun p hp => (by cases hp)
  led := by
    show _ ∨ (!w.params.followText "set-order") = true
    cases w.params.followText "set-order"
    · exact .inr rfl
    · exact .inl rfl
  room := by
    show 0 * 5 < 7 * 3
    decide
  few := by
    show 0 < 64
    decide
/-- set.update's loop -/
theorem set_update_tups {I : Addr} {fp wr : List Addr} {G : Array GenState → Array GenState → Prop} {n : Nat} {Pv : Nat → Value → Prop} {St : Nat → Shared → Prop} {R : Result → Shared → Prop}
    (W : WalksS P w A.in1 I fp wr G n Pv St) (S : Addr) (hSf : S ∉ fp) (ks : List (Addr × List Key)) (hn : n = ks.length) (hfew : ks.length < 64) (hval : ∀ i v, Pv i v → ∃ p, ks[i]? = some p ∧ v = .ref p.1)
    (h0 : Heap) (hk : ∀ p ∈ ks, IsT P w h0 p.2 p.1) (hS0 : h0.get? S = none) (hw0 : ∀ b ∈ wr, h0.get? b = none) (hu : A.in1.units < cLine) :
    ∀ (k i : Nat) (s : Shared), n - i = k → i ≤ n → St i s → (∀ b o, h0.get? b = some o → s.heap.get? b = some o) → (∃ L es ep t, SetTR P w s.heap S L es ep t ∧ Got ks i L) →
      (∀ s' L es ep t, Moved (S :: wr) G s s' → SetTR P w s'.heap S L es ep t → Got ks n L → (∀ b o, h0.get? b = some o → s'.heap.get? b = some o) → R (.ok (.ret .none)) s') →
      codeAny (model P w) A (.builtin "set.update.loop" ⟨[.ref S, .ref I], []⟩) R s := by
  have hSw : S ∉ wr := fun h => hSf (W.sub _ h)
  have hsub : ∀ b ∈ wr, b ∈ S :: wr := fun b hb => List.mem_cons_of_mem _ hb
  have keepM : ∀ {s s' : Shared}, Moved wr G s s' → (∀ b o, h0.get? b = some o → s.heap.get? b = some o) → ∀ b o, h0.get? b = some o → s'.heap.get? b = some o := fun hm hkp b o e =>
    hm.heap b o (fun hb => by rw [hw0 b hb] at e; cases e) (hkp b o e)
  intro k
  induction k with
  | zero =>
    intro i s hk' hi hst hkp ⟨L, es, ep, t, hS, g⟩ hR
    have hin : i = n := by omega
    subst hin
    refine codeAny_builtin F.entry_set_update_loop ?_
    rw [Around.under_plainId F.plain_set_update_loop _]
    show wpAny _ A.in1 (pyNext (.ref I) >>= _) _ _ s
    refine wpAny_bind (W.done s _ _ hst fun s' hm => ?_)
    show wpAny _ A.in1 (ret Value.none) _ _ s'
    have hkp' := keepM hm hkp
    have sub : ∀ p ∈ L, p ∈ ks := fun p hp => List.mem_of_mem_take (g.sub p hp)
    exact wpAny_pure (hR s' L es ep t (hm.mono hsub) (hS.keep (fun o e => hm.heap S o hSw e) fun p hp => isT_keep (hk p (sub p hp)) hkp') g hkp')
  | succ k ih =>
    intro i s hk' hi hst hkp ⟨L, es, ep, t, hS, g⟩ hR
    have hlt : i < n := by omega
    refine codeAny_builtin F.entry_set_update_loop ?_
    rw [Around.under_plainId F.plain_set_update_loop _]
    show wpAny _ A.in1 (pyNext (.ref I) >>= _) _ _ s
    refine wpAny_bind (W.item i s _ _ hlt hst fun v s' hP hst' hm => ?_)
    obtain ⟨p, hp, rfl⟩ := hval i v hP
    have hkp' := keepM hm hkp
    have sub : ∀ p ∈ L, p ∈ ks := fun p hp => List.mem_of_mem_take (g.sub p hp)
    have hS' : SetTR P w s'.heap S L es ep t := hS.keep (fun o e => hm.heap S o hSw e) fun q hq => isT_keep (hk q (sub q hq)) hkp'
    have hx : IsT P w s'.heap p.2 p.1 := isT_keep (hk p (List.mem_of_getElem? hp)) hkp'
    show wpAny _ A.in1 (holding [Value.ref p.1] (setAdd S (.ref p.1)) >>= _) _ _ s'
    refine wpAny_bind (wpAny_holding ?_)
    unfold setAdd
    refine wpAny_holding ?_
    refine wpAny_bind (wpAny_pyHash_tuple hu hx ?_)
    refine add_at (s := { s' with toks := s'.toks + (p.2.length + 1) }) hS' hx hu (by have := g.len; omega) fun b h' L' es' ep' t' hsb hS2 c1 c2 => ?_
    have g' : Got ks (i + 1) L' := by
      rcases Classical.em (p.2 ∈ L.map (·.2)) with c | c
      · rw [c1 c]; exact g.same hp c
      · exact g.more hp (c2 c)
    have hkp2 : ∀ b o, h0.get? b = some o → h'.get? b = some o := fun b o e => (hsb.2 b (fun z => by rw [z, hS0] at e; cases e)).trans (hkp' b o e)
    refine wpAny_pure ⟨plainId_quiet F.plain_set_update_loop _, ih (i + 1) _ (by omega) hlt (W.frame _ s' _ _ hst' (Nat.le_add_right _ _) fun b hb o e => ?_) hkp2 ⟨L', es', ep', t', hS2, g'⟩ fun s'' L2 es2 ep2 t2 hm'' hS'' g'' hkp'' => ?_⟩
    · rw [hsb.2 b (fun h : b = S => hSf (by rw [← h]; exact hb))]; exact e
    · refine hR s'' L2 es2 ep2 t2 (Moved.trans W.gtrans ((hm.mono hsub).then_heap (Nat.le_add_right _ _) fun b o hb e => ?_) hm'') hS'' g'' hkp''
      rw [hsb.2 b (fun h : b = S => hb (by rw [h]; exact List.mem_cons_self))]; exact e
/-- set(xs) -/
theorem call_set_tups {l : Addr} {items : Array Value} (ks : List (Addr × List Key)) {Q : Value → Shared → Prop} (hh : A.handled = none) (hl : s.heap.IsList l items) (hit : items.toList = ks.map fun p => Value.ref p.1)
    (hk : ∀ p ∈ ks, IsT P w s.heap p.2 p.1) (hfew : ks.length < 64) (hu : A.units + 3 < cLine)
    (h : ∀ (h' : Heap) (tk : Nat) L es ep t, SetTR P w h' s.heap.objs.size L es ep t → Got ks ks.length L → (∀ b o, s.heap.get? b = some o → h'.get? b = some o) → Q (.ref s.heap.objs.size) { s with heap := h', toks := tk }) :
    wpAny (model P w) A (call (.type "set") [.ref l]) Q E s := by
  have hisz : items.size = ks.length := by
    have q := congrArg List.length hit
    rw [Array.length_toList, List.length_map] at q
    exact q
  obtain ⟨c, tl, hmro⟩ := F.called_set.mro
  have hmade := F.called_set.made
  have hsub := F.called_set.sub
  refine wpAny_call (codeAny_of_tree ?_)
  show wpAny _ _ (callAny (.type "set") _) _ _ _
  refine wpAny_pure ⟨Code.quiet_builtin _ (by decide +kernel), codeAny_builtin F.entry_type_call ?_⟩
  rw [Around.under_plain (weight_type_call_type "set" [.ref l] []) rfl]
  have h1 := F.called_set.notType
  have h2 := F.called_set.canCreate
  have hct := F.typeCall_set_1 (.ref l)
  repeat (any_goals (first | assumption | wp_step))
  refine codeAny_mono (code_set_led1 (.ref l) (E := E) (Q₁ := fun obj s₁ => obj = .ref s.heap.objs.size ∧ s₁ = { s with heap := s.heap.push { cls := .type "set", dict := none, data := .set #[] 0 (.fresh 0 0 (!w.params.followText "set-order")) } }) ⟨rfl, rfl⟩) fun r s₁ hr => ?_
  cases r with
  | error e => exact hr
  | ok fl =>
    cases fl with
    | ret obj =>
      obtain ⟨rfl, rfl⟩ := hr
      have hS : (s.heap.push { cls := .type "set", dict := none, data := .set #[] 0 (.fresh 0 0 (!w.params.followText "set-order")) }).get? s.heap.objs.size = some { cls := .type "set", dict := none, data := .set #[] 0 (.fresh 0 0 (!w.params.followText "set-order")) } := Heap.get?_push_size _ rfl
      have hT : Shared.TypeIs { s with heap := s.heap.push { cls := .type "set", dict := none, data := .set #[] 0 (.fresh 0 0 (!w.params.followText "set-order")) } } (.ref s.heap.objs.size) "set" := ⟨_, hS, rfl⟩
      have hli := F.called_set.init.lookup
      have hbi := F.called_set.init.bind (.ref s.heap.objs.size)
      repeat (any_goals (first | assumption | wp_step))
      refine codeAny_mono (codeAny_call_builtin (R := wants (fun r s₂ => r = .none ∧ ∃ h' tk L es ep t, s₂ = { s with heap := h', toks := tk } ∧ SetTR P w h' s.heap.objs.size L es ep t ∧ Got ks ks.length L ∧
          (∀ b o, s.heap.get? b = some o → h'.get? b = some o)) E) F.called_set.init.plain F.entry_set_init (check_set_init_1 hT ?_)) fun r₂ s₂ hr₂ => ?_
      · obtain ⟨ol, hol, hcl, nl, hdl⟩ := hl
        obtain ⟨ocls, odict, odata, oslots⟩ := ol
        simp only at hcl hdl
        subst hcl; subst hdl
        have hol' : (s.heap.push { cls := .type "set", dict := none, data := .set #[] 0 (.fresh 0 0 (!w.params.followText "set-order")) }).get? l = some { cls := .type "list", dict := odict, data := .seq items nl, slots := oslots } := Heap.get?_push_of_some _ hol
        have hsls := F.sub_list_set
        have hslf := F.sub_list_frozenset
        have hne : (Value.type "list" == Value.type "dict") = false := by decide
        have hl1 : (s.heap.push { cls := .type "set", dict := none, data := .set #[] 0 (.fresh 0 0 (!w.params.followText "set-order")) }).IsList l items := ⟨_, hol', rfl, nl, rfl⟩
        unfold Builtin.«set.__init__» noKeywords Builtin.Frozenset.updateFrom
        generalize hPI : pyIter = PI
        wp_walk
        subst hPI
        refine wpAny_pyIter_list hl1 ?_
        refine wpAny_bind (wpAny_runValue ?_)
        have hlS : l < s.heap.objs.size := Heap.lt_size hol
        have hh3 : A.in1.in1.in1.handled = none := by simp [hh]
        have hz1 : (s.heap.push { cls := .type "set", dict := none, data := .set #[] 0 (.fresh 0 0 (!w.params.followText "set-order")) }).objs.size = s.heap.objs.size + 1 := Heap.size_push ..
        have hneI : l ≠ (s.heap.push { cls := .type "set", dict := none, data := .set #[] 0 (.fresh 0 0 (!w.params.followText "set-order")) }).objs.size := by
          rw [Heap.size_push]; exact Nat.ne_of_lt (Nat.lt_succ_of_lt hlS)
        have hSf : s.heap.objs.size ∉ [(s.heap.push { cls := .type "set", dict := none, data := .set #[] 0 (.fresh 0 0 (!w.params.followText "set-order")) }).objs.size, l] := by
          rw [Heap.size_push]; simp only [List.mem_cons, List.mem_singleton, List.not_mem_nil, or_false, not_or]
          exact ⟨Nat.ne_of_lt (Nat.lt_succ_self _), Nat.ne_of_gt hlS⟩
        have hval : ∀ (i : Nat) (v : Value), items[i]? = some v → ∃ p, ks[i]? = some p ∧ v = .ref p.1 := fun i v hv => by
          have q : items.toList[i]? = some v := by rw [Array.getElem?_toList]; exact hv
          rw [hit, List.getElem?_map] at q
          cases hq : ks[i]? with
          | none => rw [hq] at q; cases q
          | some p =>
            rw [hq] at q
            exact ⟨p, rfl, (Option.some.inj q).symm⟩
        have none_of : ∀ b, s.heap.objs.size ≤ b → s.heap.get? b = none := fun b hb => by
          cases q : s.heap.get? b with
          | none => rfl
          | some o => exact absurd (Nat.lt_of_lt_of_le (Heap.lt_size q) hb) (Nat.lt_irrefl _)
        refine set_update_tups ((Walks.list hh3 _ l hneI items).toS) s.heap.objs.size
          hSf ks hisz hfew hval s.heap hk (none_of _ (Nat.le_refl _)) (fun b hb => none_of b (by
            rw [List.mem_singleton.mp hb, Heap.size_push]
            exact Nat.le_succ _)) hu (items.size - 0) 0 _ (by omega) (Nat.zero_le _)
          ⟨⟨_, Heap.get?_push_size _ rfl, rfl, rfl⟩, (hl1.push _)⟩ (fun b o e => Heap.get?_push_of_some _ (Heap.get?_push_of_some _ e)) ?hS0 ?hR
        case hS0 =>
          have hget : ((s.heap.push { cls := .type "set", dict := none, data := .set #[] 0 (.fresh 0 0 (!w.params.followText "set-order")) }).push { cls := .type "list_iterator", data := .fields #[.ref l, .int 0 0] }).get? s.heap.objs.size
              = some { cls := .type "set", dict := none, data := .set #[] 0 (.fresh 0 0 (!w.params.followText "set-order")) } := Heap.get?_push_of_some _ hS
          exact ⟨[], #[], 0, _, setTR_fresh hget, Got.zero ks⟩
        case hR =>
          intro s' L es ep t hm hS' g' hkp
          obtain ⟨h', g2, d', tk', os'⟩ := s'
          have eg : g2 = s.gens := hm.gens
          have ed : d' = s.drawn := hm.drawn
          have eo : os' = s.os := hm.os
          subst eg; subst ed; subst eo
          show wpAny _ _ _ _ _ _
          refine wpAny_pure ?_
          show wpAny _ _ (ret Value.none) _ _ _
          rw [hisz] at g'
          exact wpAny_pure ⟨rfl, h', tk', L, es, ep, t, rfl, hS', g', hkp⟩
      · cases r₂ with
        | error e => exact hr₂
        | ok fl₂ =>
          cases fl₂ with
          | ret r =>
            obtain ⟨rfl, h', tk, L, es, ep, t, rfl, hS', g', hk'⟩ := hr₂
            repeat (any_goals (first | assumption | wp_step))
            exact h _ _ _ _ _ _ hS' g' hk'
          | _ => exact hr₂.elim
    | _ => exact hr.elim
end
end MsT
namespace MsT
open PySem PySem.Spec PyProof.Rows L2
def keyP : Key → PyData
  | .inl i => .int i
  | .inr x => .str x
def encK (q : Addr × List Key) : PyData := .tuple (q.2.map keyP)
section
variable {P : Program} {w : World} {A : Around} {E : Value → Shared → Prop} {s : Shared}
theorem readsAll_of {h : Heap} {k : List Key} {vs : List Value} (x : ItemsAre (mixKind P w) k vs) : PySem.ReadsAll h vs (k.map keyP) [] := by
  induction x with
  | nil => exact .nil
  | @cons k0 v ks vs h1 _ ih =>
    have e : PySem.Reads h v (keyP k0) [] := by
      rcases keyIs_shape h1 with ⟨i, t, e1, e2⟩ | ⟨z, t, e1, e2⟩
      · subst e1 e2; exact .int _ _
      · subst e1 e2; exact .str _ _
    exact .cons (as := []) (bs := []) e ih
theorem reads_of {h : Heap} {k : List Key} {b : Addr} (x : IsT P w h k b) : ∃ as, PySem.Reads h (.ref b) (.tuple (k.map keyP)) as := by
  obtain ⟨o, items, n, ho, hc, hd, hi⟩ := x
  exact ⟨_, .tuple ho hc (by simpa using hd) (readsAll_of hi)⟩
open PySem.W in
/-- sorted(S), S a set of tuples of one shape -/
theorem sorted_setK {a : Addr} {L : List (Addr × List Key)} {es : Array (Int × Value)} {ep : Nat} {t : SetTable} {Q : Value → Shared → Prop} (R : SetTR P w s.heap a L es ep t) (hh : A.handled = none) (hal : AllAlike (L.map encK)) (hk : Sortable (L.map encK)) (hu : ∀ q ∈ L, A.units + 2 + (encK q).depth < cLine)
    (hQ : ∀ s' p (out : Array Value) (c : Nat) (L1 : List (Addr × List Key)), (∀ b o, s.heap.get? b = some o → s'.heap.get? b = some o) → s'.gens = s.gens → s'.os = s.os → s.heap.objs.size ≤ p →
      s'.heap.get? p = some (seqObj "list" out c) → L1.Perm L → out.toList = (L1.mergeSort (dataLe false encK)).map (fun q => Value.ref q.1) → Q (.ref p) s') :
    wpAny (model P w) A (call (.builtin "sorted") [.ref a]) Q E s := by
  obtain ⟨o, ho, hex, hd⟩ := R.ob
  have hsz := R.size
  have hfew := R.few
  refine Calls.call_function_entry kind_sorted plain_sorted entry_sorted (args_sorted1 _) ?_
  unfold Builtin.«sorted»
  refine wpAny_bind (m := checkCount "sorted" 1 1 _) (wpAny_pure ?_)
  refine wpAny_bind (collect_set (A := A.in1) hh ⟨o, ho, hex.1, hd⟩ R.fits (by unfold scanBound; omega) R.tab.ris R.led fun s1 vs k1 hz g1 o1 pm => ?_)
  have hes : es.toList.map (·.2) = L.map fun q => Value.ref q.1 := by
    rw [R.rows]
    unfold rowsOf
    rw [List.map_map] <;> rfl
  rw [hes] at pm
  have ord : ∀ vs : List Value, (∀ v ∈ vs, ∃ q ∈ L, v = Value.ref q.1) → ∃ L1 : List (Addr × List Key), vs = L1.map (fun q => Value.ref q.1) ∧ ∀ q ∈ L1, q ∈ L := by
    intro vs
    induction vs with
    | nil => intro _; exact ⟨[], rfl, fun q hq => (by cases hq)⟩
    | cons v vs ih =>
      intro hv
      obtain ⟨q, hq, e⟩ := hv v List.mem_cons_self
      obtain ⟨L1, e1, hs⟩ := ih fun u hu => hv u (List.mem_cons_of_mem _ hu)
      refine ⟨q :: L1, by rw [List.map_cons, e, e1], fun r hr => ?_⟩
      rcases List.mem_cons.mp hr with z | z
      · rw [z]; exact hq
      · exact hs r z
  have one : ∀ q ∈ L, ∀ r ∈ L, q.1 = r.1 → q = r := fun q hq r hr e => by
    have a1 := R.tup q hq
    have a2 := R.tup r hr
    rw [e] at a1
    have e2 : q.2 = r.2 := a1.inj a2
    exact Prod.ext e e2
  have perm_of : ∀ L1 : List (Addr × List Key), (∀ q ∈ L1, q ∈ L) → (L1.map (fun q => Value.ref q.1)).Perm (L.map fun q => Value.ref q.1) → L1.Perm L := by
    intro L1 hs pm1
    have nL : L.Nodup := nodup_of_map R.nd
    have nref : (L.map fun q => Value.ref q.1).Nodup := by
      refine List.pairwise_map.mpr (List.Pairwise.imp_of_mem (fun {q r} hq hr hne e => ?_) nL)
      injection e with e
      exact hne (one q hq r hr e)
    have n1 : L1.Nodup := nodup_of_map (pm1.nodup_iff.mpr nref)
    refine (List.perm_ext_iff_of_nodup n1 nL).mpr fun q => ⟨hs q, fun hq => ?_⟩
    have hm : Value.ref q.1 ∈ L1.map (fun q => Value.ref q.1) := pm1.mem_iff.mpr (List.mem_map.mpr ⟨q, hq, rfl⟩)
    obtain ⟨r, hr, e⟩ := List.mem_map.mp hm
    injection e with e
    rw [← one r (hs r hr) q hq e]
    exact hr
  have hvl : vs.length < 64 := by rw [pm.length_eq, List.length_map]; exact hfew
  obtain ⟨L1, e1, hs1⟩ := ord vs fun v hv => by
    obtain ⟨q, hq, e⟩ := List.mem_map.mp (pm.mem_iff.mp hv)
    exact ⟨q, hq, e.symm⟩
  have pL : L1.Perm L := perm_of L1 hs1 (by rw [← e1]; exact pm)
  refine wpAny_bind (wpAny_newList ?_ (by rw [sizeLine_eq]; omega))
  have hoL : (s1.heap.push (seqObj "list" vs.toArray 0)).get? s1.heap.objs.size = some (seqObj "list" vs.toArray 0) := Heap.get?_push_size _ rfl
  have hal1 : AllAlike (L1.map encK) := fun d hd d' hd' => hal d ((pL.map encK).mem_iff.mp hd) d' ((pL.map encK).mem_iff.mp hd')
  have hk1 : Sortable (L1.map encK) := hk.imp (fun z d hd => z d ((pL.map encK).mem_iff.mp hd)) fun z d hd => z d ((pL.map encK).mem_iff.mp hd)
  have ee : EachIs (fun (v : Value) (q : Addr × List Key) => v = Value.ref q.1) vs L1 := by
    rw [e1]
    have : ∀ l : List (Addr × List Key), EachIs (fun (v : Value) (q : Addr × List Key) => v = Value.ref q.1) (l.map fun q => Value.ref q.1) l := fun l => by
      induction l with
      | nil => exact .nil
      | cons q l ih => exact .cons rfl ih
    exact this L1
  have er : ∀ h' : Heap, (∀ q ∈ L, IsT P w h' q.2 q.1) → EachIs (fun (v : Value) (q : Addr × List Key) => ∃ as, PySem.Reads h' v (encK q) as) vs L1 := fun h' ht => by
    rw [e1]
    have : ∀ l : List (Addr × List Key), (∀ q ∈ l, q ∈ L) → EachIs (fun (v : Value) (q : Addr × List Key) => ∃ as, PySem.Reads h' v (encK q) as) (l.map fun q => Value.ref q.1) l := fun l hl => by
      induction l with
      | nil => exact .nil
      | cons q l ih => exact .cons (reads_of (ht q (hl q List.mem_cons_self))) (ih fun r hr => hl r (List.mem_cons_of_mem _ hr))
    exact this L1 hs1
  have ht2 : ∀ q ∈ L, IsT P w (sortingHeap (s1.heap.push (seqObj "list" vs.toArray 0)) s1.heap.objs.size vs) q.2 q.1 := fun q hq => isT_keep (R.tup q hq) fun b o e => by
    have q1 := k1 b o e
    exact sortingHeap_old (Nat.ne_of_lt (Heap.lt_size q1)) (Heap.get?_push_of_some _ q1)
  have ev := sortVals_data (R := fun (v : Value) (q : Addr × List Key) => v = Value.ref q.1) (enc := encK) false ee (er _ ht2) hal1
  have eo : ∀ {out : List Value} {l : List (Addr × List Key)}, EachIs (fun (v : Value) (q : Addr × List Key) => v = Value.ref q.1) out l → out = l.map fun q => Value.ref q.1 := fun {out l} e => by
    induction e with
    | nil => rfl
    | cons h1 _ ih => rw [h1, ih]; rfl
  have hlL : vs.length ≤ sizeLine := by rw [sizeLine_eq]; omega
  refine wpAny_bind (wpAny_holding (wpAny_call_entry slot_list_sort ⟨_, hoL, rfl⟩ entry_list_sort ?_ (args_list_sort _)))
  refine list_sort_vals (s := { s1 with heap := s1.heap.push (seqObj "list" vs.toArray 0) }) hoL (SortsAt.data (each_map (R := fun v d => ∃ as, PySem.Reads (sortingHeap (s1.heap.push (seqObj "list" vs.toArray 0)) s1.heap.objs.size vs) v d as) encK (er _ ht2)) hal1 hk1 (bound_map fun q hq => ?_)) hlL ⟨_, rfl, ?_⟩
  · exact hu q (hs1 q hq)
  · obtain ⟨c, hc⟩ := sortedHeap_at (vs := vs) (out := (sortVals (dataKind (sortingHeap (s1.heap.push (seqObj "list" vs.toArray 0)) s1.heap.objs.size vs) (L1.map encK)) false vs vs).toArray) hoL
    refine wpAny_pure ⟨_, rfl, hQ _ s1.heap.objs.size _ c L1 (fun b u e => ?_) g1 o1 hz hc pL (by simpa using eo ev)⟩
    have q := k1 b u e
    have hlt := Heap.lt_size q
    show (sortedHeap (s1.heap.push (seqObj "list" vs.toArray 0)) s1.heap.objs.size vs _).get? b = some u
    rw [sortedHeap_old (Nat.ne_of_lt hlt) (by rw [size_push']; exact Nat.lt_succ_of_lt hlt)]
    exact Heap.get?_push_of_some _ q
end
end MsT
namespace MsT
open PySem PySem.Spec PyProof.Rows L2
/-- a set's object, of tuples of keys -/
structure SetK0 (P : Program) (w : World) (h : Heap) (a : Addr) (L : List (Addr × List Key)) : Prop where
  ex : ∃ (es : Array (Int × Value)) (ep : Nat) (t : SetTable), (∃ o, h.get? a = some o ∧ o.ExactSet ∧ o.data = .set es ep t) ∧ es.toList = rowsOf P w L ∧ TabOk t (L.map fun p => thash P w p.2) ∧ (L.map (·.2)).Nodup ∧
    (w.params.followText "set-order" = true ∨ t.led = true) ∧ L.length * 5 < t.mask * 3 ∧ L.length < 64
def SetKO (P : Program) (w : World) (a : Addr) (L : List (Addr × List Key)) : HO := .ext fun h => SetK0 P w h a L
theorem SetTR.k0 {P : Program} {w : World} {h : Heap} {a : Addr} {L : List (Addr × List Key)} {es : Array (Int × Value)} {ep : Nat} {t : SetTable} (R : SetTR P w h a L es ep t) : SetK0 P w h a L :=
  ⟨es, ep, t, R.ob, R.rows, R.tab, R.nd, R.led, R.room, R.few⟩
theorem SetK0.full {P : Program} {w : World} {h : Heap} {a : Addr} {L : List (Addr × List Key)} (R : SetK0 P w h a L) (ht : ∀ p ∈ L, IsT P w h p.2 p.1) : ∃ es ep t, SetTR P w h a L es ep t := by
  obtain ⟨es, ep, t, h1, h2, h3, h4, h6, h7, h8⟩ := R.ex
  exact ⟨es, ep, t, h1, h2, h3, h4, ht, h6, h7, h8⟩
theorem setKO_new {P : Program} {w : World} {H : Hp} {h : Heap} {a : Addr} {L : List (Addr × List Key)} (R : SetK0 P w h a L) : ObjOk P w H h a (SetKO P w a L) := by
  have ⟨es, ep, t, ⟨o, ho, r⟩, q⟩ := R.ex
  refine ⟨R, ⟨o, ho⟩, fun h1 h2 p k => ?_⟩
  have ⟨es', ep', t', ⟨o', ho', r'⟩, q'⟩ := SetK0.ex p
  exact ⟨es', ep', t', ⟨o', k o' ho', r'⟩, q'⟩
theorem key_is {P : Program} {w : World} {k : Key} {u : Value} (r : RelV (kV k) u) : (mixKind P w).is k u = true := by
  cases k with
  | inl i => obtain ⟨t, e⟩ := (show ∃ t, u = Value.int i t from r); subst e; exact keyIs_int i t
  | inr x => obtain ⟨t, e⟩ := (show ∃ t, u = Value.str x t from r); subst e; exact keyIs_str x t
theorem items_of_valsK {P : Program} {w : World} : ∀ {k : List Key} {us : List Value}, Vals (k.map kV) us → ItemsAre (mixKind P w) k us
  | [], _, .nil => .nil
  | n :: k, _, .cons r t => .cons (key_is r) (items_of_valsK t)
theorem refs_of_valsK : ∀ {ks : List (Addr × List Key)} {us : List Value}, Vals (ks.map fun p => V.ref p.1) us → us = ks.map fun p => Value.ref p.1
  | [], _, .nil => rfl
  | p :: ks, _, .cons r t => by
    cases r
    rw [refs_of_valsK t] <;> rfl
theorem vals_of_refsK : ∀ (ks : List (Addr × List Key)), Vals (ks.map fun p => V.ref p.1) (ks.map fun p => Value.ref p.1)
  | [] => .nil
  | p :: ks => .cons rfl (vals_of_refsK ks)
section
variable {X : Cx}
theorem isTK {pins : List (Addr × Obj)} {σ : L2.St} {H : Hp} {s : Shared} {b : Addr} {k : List Key} (I : Inv X pins σ H s) (h : SqT X.K H b (k.map kV)) : IsT X.prog X.w s.heap k b := by
  obtain ⟨its, r, ⟨o, ho, hc, n, hd⟩, _⟩ := I.tuple h
  exact ⟨o, its.toArray, n, ho, hc, hd, by simpa using items_of_valsK r⟩
/-- set(xs), xs a list of tuples of ints and texts -/
def rSetK (K : PySem.W.Frag) (P : Program) (w : World) : List V → Hp → VK → Prop := fun xs H Q => ∃ (l : Addr) (ks : List (Addr × List Key)), xs = [V.ref l] ∧ SqL K H l (ks.map fun p => V.ref p.1) ∧ (∀ p ∈ ks, SqT K H p.1 (p.2.map kV)) ∧ ks.length < 64 ∧
  ∀ a L, H a = none → (∀ p ∈ L, p ∈ ks) → (∀ p ∈ ks, p.2 ∈ L.map (·.2)) → (L.map (·.2)).Nodup → Q (.ref a) (upd H a (SetKO P w a L))
theorem cr_setK (hc : X.calm = true) (hu : X.A.units + 64 < cLine) : CallR X (.type "set") (rSetK X.K X.prog X.w) := by
  intro pins s σ H xs us Q I r h
  obtain ⟨l, ks, rfl, hl, hk, hf, q⟩ := h
  rw [Vals.ref1 r]
  obtain ⟨its, rv, pl, hz⟩ := I.list hl
  have hn : H s.heap.objs.size = none := I.hok.fresh (Nat.le_refl _)
  refine call_set_tups (P := X.prog) (w := X.w) ks (I.ok.hd hc) pl.isList (by simpa using refs_of_valsK rv) (fun p hp => isTK I (hk p hp)) hf (by omega) fun h' tk L es ep t R g k => ?_
  refine ⟨.ref s.heap.objs.size, upd H s.heap.objs.size (SetKO X.prog X.w s.heap.objs.size L), I.laid (t' := tk) k (Nat.le_refl _) (setKO_new R.k0), rfl, q _ L hn (fun p hp => ?_) (fun p hp => ?_) R.nd⟩
  · exact List.mem_of_mem_take (g.sub p hp)
  · exact g.all p (by rw [List.take_length]; exact hp)
open PySem.W in
/-- sorted(set) -/
def rSortK (K : PySem.W.Frag) (P : Program) (w : World) : List V → Hp → VK → Prop := fun vs H Q => ∃ (a : Addr) (L : List (Addr × List Key)), vs = [V.ref a] ∧ H a = some (SetKO P w a L) ∧ (∀ p ∈ L, SqT K H p.1 (p.2.map kV)) ∧ AllAlike (L.map encK) ∧ Sortable (L.map encK) ∧ (∀ q ∈ L, (encK q).depth ≤ 60) ∧
  ∀ (L1 : List (Addr × List Key)) (p : Addr), L1.Perm L → H p = none → Q (.ref p) (upd H p (.lst ((L1.mergeSort (dataLe false encK)).map fun q => V.ref q.1)))
open PySem.W in
theorem cr_sortK (hc : X.calm = true) (hu : X.A.units + 64 < cLine) : CallR X (.builtin "sorted") (rSortK X.K X.prog X.w) := by
  intro pins s σ H vs us Q I r h
  obtain ⟨a, L, rfl, ha, hk, hal, hso, hdp, q⟩ := h
  have R0 : SetK0 X.prog X.w s.heap a L := (I.hok a _ ha).1
  obtain ⟨es, ep, t, R⟩ := R0.full fun p hp => isTK I (hk p hp)
  rw [Vals.ref1 r]
  refine sorted_setK R (I.ok.hd hc) hal hso (fun q hq => by have := hdp q hq; omega) fun s' p out c L1 k g o hp hg pm hout => ?_
  have hlen1 : (L1.mergeSort (dataLe false encK)).length = L.length := by rw [List.length_mergeSort, pm.length_eq]
  have hlen : ((L1.mergeSort (dataLe false encK)).map fun q => V.ref q.1).length ≤ sizeLine := by rw [List.length_map, hlen1, sizeLine_eq]; have := R.few; omega
  have hn : H p = none := I.hok.fresh hp
  have hv : Vals ((L1.mergeSort (dataLe false encK)).map fun q => V.ref q.1) out.toList := by rw [hout]; exact vals_of_refsK _
  have J : Inv X pins σ (upd H p (.lst ((L1.mergeSort (dataLe false encK)).map fun q => V.ref q.1))) { s with heap := s'.heap, gens := s'.gens, drawn := s'.drawn, toks := s'.toks } :=
    I.call (ch := []) (Un.laid k hp hn) (I.hok.laid k hp ⟨hlen, out.toList, c, hv, hg⟩) (by rw [g]; exact I.bare) (fun _ z => nomatch z)
  have e : s' = { s with heap := s'.heap, gens := s'.gens, drawn := s'.drawn, toks := s'.toks } := by
    cases s'
    cases s
    cases o
    rfl
  rw [e]
  exact ⟨.ref p, _, J, rfl, q L1 p pm hn⟩
end
end MsT
/-! SetD: sorted(set(e)) at the data level. -/
namespace MsT
open PySem PySem.Spec PySem.W PyProof.Rows L2
def leK (a b : List Key) : Bool := dataLe false (fun k : List Key => PyData.tuple (k.map keyP)) a b
def nub : List (List Key) → List (List Key)
  | [] => []
  | k :: ks => if ks.any (fun j => decide (j = k)) = true then nub ks else k :: nub ks
theorem any_mem {k : List Key} {ks : List (List Key)} : ks.any (fun j => decide (j = k)) = true ↔ k ∈ ks := by simp
theorem mem_nub {x : List Key} : ∀ {l : List (List Key)}, x ∈ nub l ↔ x ∈ l
  | [] => Iff.rfl
  | k :: ks => by
    unfold nub
    by_cases h : k ∈ ks
    · rw [if_pos (any_mem.mpr h), mem_nub, List.mem_cons]
      exact ⟨.inr, fun q => q.elim (fun e => e ▸ h) id⟩
    · rw [if_neg (fun z => h (any_mem.mp z)), List.mem_cons, List.mem_cons, mem_nub]
theorem nodup_nub : ∀ l : List (List Key), (nub l).Nodup
  | [] => List.nodup_nil
  | k :: ks => by
    unfold nub
    by_cases h : k ∈ ks
    · rw [if_pos (any_mem.mpr h)]; exact nodup_nub ks
    · rw [if_neg (fun z => h (any_mem.mp z))]; exact List.nodup_cons.mpr ⟨fun z => h (mem_nub.mp z), nodup_nub ks⟩
def sortK (ks : List (List Key)) : List (List Key) := (nub ks).mergeSort leK
theorem toks_inj : ∀ {a b : List Key}, keyToksAll (a.map keyP) = keyToksAll (b.map keyP) → a = b
  | [], [], _ => rfl
  | [], y :: b, h => by
    rw [List.map_nil, List.map_cons, keyToksAll, keyToksAll] at h
    simp at h
  | x :: a, [], h => by
    rw [List.map_nil, List.map_cons, keyToksAll, keyToksAll] at h
    simp at h
  | x :: a, y :: b, h => by
    rw [List.map_cons, List.map_cons, keyToksAll, keyToksAll] at h
    cases x with
    | inl i =>
      cases y with
      | inl j =>
        simp only [keyP, keyToks, List.singleton_append, List.cons.injEq, Sum.inl.injEq, true_and] at h
        rw [h.1, toks_inj h.2]
      | inr z =>
        simp [keyP, keyToks] at h
    | inr x =>
      cases y with
      | inl j =>
        simp [keyP, keyToks] at h
      | inr z =>
        simp only [keyP, keyToks, List.singleton_append, List.cons.injEq, Sum.inr.injEq, true_and] at h
        rw [str_of_cps h.1, toks_inj h.2]
theorem leK_anti {a b : List Key} (h1 : leK a b = true) (h2 : leK b a = true) : a = b := by
  refine toks_inj ?_
  have t := (listOrd itemOrd).total (keyToks (.tuple (a.map keyP))) (keyToks (.tuple (b.map keyP)))
  have e1 : (!(listOrd itemOrd).blt (keyToks (.tuple (b.map keyP))) (keyToks (.tuple (a.map keyP)))) = true := h1
  have e2 : (!(listOrd itemOrd).blt (keyToks (.tuple (a.map keyP))) (keyToks (.tuple (b.map keyP)))) = true := h2
  have e := t (by simpa using e2) (by simpa using e1)
  have k : ∀ l : List PyData, keyToks (.tuple l) = keyToksAll l := fun l => by rw [keyToks]
  rw [k, k] at e
  exact e
theorem sort_perm {l1 l2 : List (List Key)} (p : l1.Perm l2) : l1.mergeSort leK = l2.mergeSort leK := by
  have T := sortLe_total (listOrd itemOrd) false (fun k : List Key => keyToks (.tuple (k.map keyP)))
  refine List.Perm.eq_of_pairwise (le := fun a b => leK a b = true) (fun a b _ _ h1 h2 => leK_anti h1 h2) (List.pairwise_mergeSort (le := leK) (fun a b c => T.trans a b c) (fun a b => Bool.or_eq_true _ _ ▸ T.total a b) l1) (List.pairwise_mergeSort (le := leK) (fun a b c => T.trans a b c) (fun a b => Bool.or_eq_true _ _ ▸ T.total a b) l2) ?_
  exact ((List.mergeSort_perm l1 leK).trans p).trans (List.mergeSort_perm l2 leK).symm
end MsT
namespace Ms
open PySem PySem.Spec PyProof.Rows L2 MsT
def keyT : D → Option (List Key)
  | .tup l => l.mapM key1
  | _ => none
def keysOf : List D → Option (List (List Key))
  | [] => some []
  | d :: ds => match keyT d, keysOf ds with
    | some k, some ks => some (k :: ks)
    | _, _ => none
def okK (ks : List (List Key)) : Bool := decide (ks.length < 64) && ks.all fun a => !a.isEmpty && decide ((PyData.tuple (a.map keyP)).depth ≤ 60) && ks.all fun b => PySem.W.alike (.tuple (a.map keyP)) (.tuple (b.map keyP))
def sortSetD (s : Sta) (d : D) : Option D := ((d.seqL s).bind keysOf).bind fun ks => if okK ks = true then some (.lst ((sortK ks).map fun k => .tup (k.map keyD))) else none
def M.sortSet (m : M D) : M D := do
  let d ← m
  M.look fun s => sortSetD s d
theorem keyT_D {d : D} {k : List Key} (h : keyT d = some k) : d = .tup (k.map keyD) := by
  have : keyQ d = some (.inr k) := by
    unfold keyT at h
    split at h
    · show Option.map Sum.inr (List.mapM key1 _) = _
      rw [h]; rfl
    · cases h
  exact keyQ_inr this
section
variable {C : RC} {T : Addr → Prop} {μ : List Addr} {H : Hp}
theorem keysOf_at : ∀ {ds : List D} {vs : List V} {ks : List (List Key)}, AtL C T μ H vs ds → keysOf ds = some ks → ∃ kas : List (Addr × List Key), vs = kas.map (fun p => V.ref p.1) ∧ kas.map (·.2) = ks ∧ ∀ p ∈ kas, At C T μ H (.ref p.1) (.tup (p.2.map keyD)) ∧ SqT C.K H p.1 (p.2.map kV)
  | [], _, ks, .nil, e => by cases e; exact ⟨[], rfl, rfl, by simp⟩
  | d :: ds, _, ks, .cons h t, e => by
    unfold keysOf at e
    split at e
    · rename_i k ks1 e1 e2
      cases e
      obtain ⟨kas, r1, r2, r3⟩ := keysOf_at t e2
      cases keyT_D e1
      have h' := h
      obtain ⟨a, ws, rfl, hp, c⟩ := h.tup_inv
      cases keysV_at c
      refine ⟨(a, k) :: kas, by rw [r1]; rfl, by rw [List.map_cons, r2], fun p hp2 => ?_⟩
      rcases List.mem_cons.mp hp2 with z | z
      · subst z; exact ⟨h', hp.elim (fun f => .inl (.inl f.2)) fun f => .inr f.2⟩
      · exact r3 p z
    · cases e
end
theorem sqT_up {K : PySem.W.Frag} {H : Hp} {a p : Addr} {xs : List V} {o : HO} (h : SqT K H p xs) (ha : H a = none) : SqT K (upd H a o) p xs := by
  rcases h with (h | ⟨u, h⟩) | h
  · exact .inl (.inl (by rw [upd_ne (ne_of_none h ha)]; exact h))
  · exact .inl (.inr ⟨u, by rw [upd_ne (ne_of_none h ha)]; exact h⟩)
  · exact .inr h
open PySem.W in
theorem okK_use {ks : List (List Key)} (h : okK ks = true) : ks.length < 64 ∧ ∀ a ∈ ks, a ≠ [] ∧ (PyData.tuple (a.map keyP)).depth ≤ 60 ∧ ∀ b ∈ ks, alike (.tuple (a.map keyP)) (.tuple (b.map keyP)) = true := by
  unfold okK at h
  rw [Bool.and_eq_true, decide_eq_true_eq, List.all_eq_true] at h
  refine ⟨h.1, fun a ha => ?_⟩
  have q := h.2 a ha
  rw [Bool.and_eq_true, Bool.and_eq_true, decide_eq_true_eq, List.all_eq_true] at q
  refine ⟨fun e => ?_, q.1.2, fun b hb => q.2 b hb⟩
  rw [e] at q
  exact absurd q.1.1 (by simp)
section
variable {X : Cx} {W : WX} {e : Expr} {p p2 q pos : Pos} {m : M D}
open PySem.W in
theorem d_sortSet (hc : X.calm = true) (hr : Rm X) (hg : Gl X "sorted") (hm : X.mg "sorted" = none) (hg2 : Gl X "set") (hm2 : X.mg "set" = none) (he : PE X e (tD (XC X) W m))
    (hs : starEach [.Call (.Name "set" p2) [e] [] q] X.env = (false, eval (.Call (.Name "set" p2) [e] [] q) X.env) :: starEach [] X.env := by rfl) (hs2 : starEach [e] X.env = (false, eval e X.env) :: starEach [] X.env := by rfl)
    (hpl : (backTo pos (starEach [] X.env)).any (·.1) = false := by rfl) (hpl2 : (backTo q (starEach [] X.env)).any (·.1) = false := by rfl) :
    PE X (.Call (.Name "sorted" p) [.Call (.Name "set" p2) [e] [] q] [] pos) (tD (XC X) W (M.sortSet m)) := by
  refine peImp (pe_callB (cr_sortK hc hr.u64) hg hm PyProof.Rows.Boot.«sorted» (pa_cons (pe_callTy (cr_setK hc hr.u64) hg2 hm2 PyProof.Rows.Boot.«set» (pa_cons he pa_nil hs2) (by decide) (by decide) hs2 hpl2) pa_nil hs) (by decide) (by decide) hs hpl) fun σ H Q ⟨F, μ, s, r, qq⟩ => ?_
  refine ⟨F, μ, s, r, qq.split.imp fun d μ1 s1 H1 x1 h1 v hv => ?_⟩
  obtain ⟨z, ez, k⟩ := res_look h1
  unfold sortSetD at ez
  obtain ⟨ks, e1, ez⟩ := Option.bind_eq_some_iff.mp ez
  obtain ⟨ds, e2, e3⟩ := Option.bind_eq_some_iff.mp e1
  by_cases hok : okK ks = true
  · rw [if_pos hok] at ez
    cases ez
    obtain ⟨o1, o2⟩ := okK_use hok
    obtain ⟨l, vs, rfl, hl, cl⟩ := x1.rep.seqL hv e2
    obtain ⟨kas, rfl, rfl, r3⟩ := keysOf_at cl e3
    refine ⟨l, kas, rfl, .of hl, fun p hp => (r3 p hp).2, by simpa using o1, fun a L ha hsub hall hnd => ?_⟩
    have inK : ∀ q ∈ L, q.2 ∈ kas.map (·.2) := fun q hq => List.mem_map.mpr ⟨q, hsub q hq, rfl⟩
    refine ⟨a, L, rfl, upd_same, fun p hp => sqT_up (r3 p (hsub p hp)).2 ha, ?_, .inl ?_, fun q hq => (o2 _ (inK q hq)).2.1, fun L1 pp pL hp => ?_⟩
    · intro d1 h1' d2 h2'
      obtain ⟨q1, m1, rfl⟩ := List.mem_map.mp h1'
      obtain ⟨q2, m2, rfl⟩ := List.mem_map.mp h2'
      exact (o2 _ (inK q1 m1)).2.2 _ (inK q2 m2)
    · intro d1 h1'
      obtain ⟨q1, m1, rfl⟩ := List.mem_map.mp h1'
      have ne := (o2 _ (inK q1 m1)).1
      cases eq : q1.2 with
      | nil => exact absurd eq ne
      | cons y ys => exact ⟨keyP y, ys.map keyP, by unfold encK; rw [eq]; rfl⟩
    · have x2 : Ext (XC X) F μ1 s1 σ H1 μ1 s1 σ (upd (upd H1 a (SetKO X.prog X.w a L)) pp (.lst ((L1.mergeSort (dataLe false encK)).map fun q => V.ref q.1))) := x1.rep.ext fun b o e => by
        rw [upd_ne (ne_of_none (show upd H1 a (SetKO X.prog X.w a L) b = some o by rw [upd_ne (ne_of_none e ha)]; exact e) hp), upd_ne (ne_of_none e ha)]
        exact e
      have fr : ¬ Tab F μ1 s1 σ pp := fun t => by
        have nz : H1 pp ≠ none := x1.rep.tabSome t
        obtain ⟨o, ho⟩ := Option.ne_none_iff_exists'.mp nz
        rw [upd_ne (ne_of_none ho ha)] at hp
        rw [hp] at ho
        cases ho
      have sorted : (L1.mergeSort (dataLe false encK)).map (·.2) = sortK (kas.map (·.2)) := by
        have e1 : (L1.mergeSort (dataLe false encK)).map (·.2) = (L1.map (·.2)).mergeSort leK := List.map_mergeSort fun _ _ _ _ => rfl
        rw [e1]
        refine sort_perm (((pL.map (·.2)).trans ?_))
        refine (List.perm_ext_iff_of_nodup hnd (nodup_nub _)).mpr fun z => ⟨fun hz => mem_nub.mpr ?_, fun hz => ?_⟩
        · obtain ⟨q1, m1, rfl⟩ := List.mem_map.mp hz
          exact inK q1 m1
        · obtain ⟨q1, m1, rfl⟩ := List.mem_map.mp (mem_nub.mp hz)
          exact hall q1 m1
      refine k _ x2 _ (.of (.lstL ⟨fr, upd_same⟩ ?_))
      rw [← sorted]
      have go : ∀ l : List (Addr × List Key), (∀ q ∈ l, q ∈ L) → AtL (XC X) (Tab F μ1 s1 σ) μ1 _ (l.map fun q => V.ref q.1) ((l.map (·.2)).map fun k => D.tup (k.map keyD)) := fun l hl => by
        induction l with
        | nil => exact .nil
        | cons q l ih => exact .cons (x2.at (r3 q (hsub q (hl q List.mem_cons_self))).1) (ih fun r hr => hl r (List.mem_cons_of_mem _ hr))
      exact go _ fun q hq => pL.mem_iff.mp ((List.mergeSort_perm L1 _).mem_iff.mp hq)
  · rw [if_neg hok] at ez
    cases ez
end
end Ms
/-! MsE: computations, evaluated. -/
namespace Ms
open PySem PySem.Spec PyProof.Rows L2
section
variable {α β : Type} {s s1 s2 : Sta} {d : D} {m : M α} {k : α → M β} {a : α}
theorem ev_bind (m : M α) (k : α → M β) (s : Sta) : (m >>= k) s = (match m s with | .ok a s' => k a s' | .exc e s' => .exc e s' | .stuck => .stuck) := rfl
theorem ev_pure (a : α) (s : Sta) : (pure a : M α) s = .ok a s := rfl
theorem ev_lit (d : D) (s : Sta) : M.lit d s = .ok d s := rfl
theorem bind_ok (h : m s = .ok a s1) : (m >>= k) s = k a s1 := by rw [ev_bind, h]
theorem op2_ok {f : D → D → M D} {a b : M D} {x y : D} (h1 : a s = .ok x s1) (h2 : b s1 = .ok y s2) : M.op2 f a b s = f x y s2 := by
  unfold M.op2
  rw [bind_ok h1, bind_ok h2]
theorem op2_fin {f : D → D → M D} {a b : M D} {x y z : D} {s3 : Sta} (h1 : a s = .ok x s1) (h2 : b s1 = .ok y s2) (h3 : f x y s2 = .ok z s3) : M.op2 f a b s = .ok z s3 := (op2_ok h1 h2).trans h3
theorem seq_nx {a b : M Fl} (h : a s = .ok .nx s1) : M.seq a b s = b s1 := by
  unfold M.seq
  rw [bind_ok h]
theorem seq_rt {a b : M Fl} (h : a s = .ok (.rt d) s1) : M.seq a b s = .ok (.rt d) s1 := by
  unfold M.seq
  rw [bind_ok h]
  rfl
theorem out_of {d : D} (h : d.isOwn = false) : M.out d s = .ok d s := by unfold M.out; rw [h]; rfl
theorem args_nil : M.args [] s = .ok [] s := rfl
theorem args_cons {m : M D} {ms : List (M D)} {ds : List D} (h : m s = .ok d s1) (hn : d.isOwn = false) (h2 : M.args ms s1 = .ok ds s2) : M.args (m :: ms) s = .ok (d :: ds) s2 := by
  show (m >>= _) s = _
  rw [bind_ok h, bind_ok (out_of hn), bind_ok h2]
  rfl
theorem set_ok {i : Nat} {m : M D} (h : m s = .ok d s1) (hn : d.isOwn = false) (hi : i < s1.ρ.length) : M.set i m s = .ok .nx { s1 with ρ := s1.ρ.set i (.val d) } := by
  unfold M.set
  rw [bind_ok h, bind_ok (out_of hn)]
  show (if i < s1.ρ.length then _ else _) = _
  rw [if_pos hi]
theorem ret_ok {m : M D} (h : m s = .ok d s1) (hn : d.isOwn = false) : M.ret m s = .ok (.rt d) s1 := by
  unfold M.ret
  rw [bind_ok h, bind_ok (out_of hn)]
  rfl
theorem call_ok {f : Fn} {ms : List (M D)} {ds : List D} {G : List MO} (h : M.args ms s = .ok ds s1) (h2 : f ds s1.G = .ok d G) : M.call f ms s = .ok d { s1 with G := G } := by
  unfold M.call
  rw [bind_ok h]
  unfold M.fn
  rw [h2]
theorem runFn_rt {N n : Nat} {body : M Fl} {ds : List D} {G : List MO} (hl : ds.length = n) (h : body ⟨ds.map .val ++ List.replicate (N - n) .no, G⟩ = .ok (.rt d) s1) : runFn N n body ds G = .ok d s1.G := by
  unfold runFn
  rw [if_pos hl, h]
theorem cond_t {t : M Bool} {a b : M Fl} (h : t s = .ok true s1) : M.cond t a b s = a s1 := by
  unfold M.cond
  rw [bind_ok h, if_pos rfl]
theorem cond_f {t : M Bool} {a b : M Fl} (h : t s = .ok false s1) : M.cond t a b s = b s1 := by
  unfold M.cond
  rw [bind_ok h, if_neg (by simp)]
theorem bool_ok {m : M D} {b : Bool} (h : m s = .ok (.bl b) s1) : M.bool m s = .ok b s1 := by
  unfold M.bool
  rw [bind_ok h]
  rfl
theorem or2_f {a b : M Bool} (h : a s = .ok false s1) : M.or2 a b s = b s1 := by
  unfold M.or2
  rw [bind_ok h, if_neg (by simp)]
theorem eqD_refl {d : D} {p : PyData} (h : scEq d d = none ∨ scEq d d = some true) (hp : d.pyS s = some p) (hs : SeqAt.shaped p = true) : eqD s d d = some true := by
  unfold eqD
  rcases h with h | h
  · rw [h, hp]
    simp only [hs, Bool.and_self, if_true]
    have : p.canLay0 = true := (Bool.and_eq_true_iff.mp hs).1
    rw [SeqAt.eqv_refl p this]
  · rw [h]
theorem look_ok {f : Sta → Option D} (h : f s = some d) : M.look f s = .ok d s := by
  unfold M.look
  rw [h]
theorem fNe_refl {d : D} (h : eqD s d d = some true) : fNe d d s = .ok (.bl false) s := look_ok (by show Option.map _ (eqD s d d) = _; rw [h]; rfl)
theorem disp_ok {ms : List (M D)} {ds : List D} (h : M.args ms s = .ok ds s1) (hl : lenOk ds.length = true) : M.disp ms s = .ok ds s1 := by
  unfold M.disp
  rw [bind_ok h, if_pos hl]
  rfl
theorem lst_ok {m : M (List D)} {ds : List D} (h : m s = .ok ds s1) : M.lst m s = .ok (.lst ds) s1 := by
  unfold M.lst
  rw [bind_ok h]
  rfl
theorem tup_ok {ms : List (M D)} {ds : List D} (h : M.args ms s = .ok ds s1) (hl : lenOk ds.length = true) : M.tup ms s = .ok (.tup ds) s1 := by
  unfold M.tup
  rw [bind_ok h, if_pos hl]
  rfl
theorem ev_purM {α : Type} (a : α) (s : Sta) : M.pure a s = .ok a s := rfl
theorem ev_stk {α : Type} (s : Sta) : (M.stuck : M α) s = .stuck := rfl
theorem ev_out (d : D) (s : Sta) : M.out d s = if d.isOwn = true then .stuck else .ok d s := by
  unfold M.out
  split <;> rfl
theorem ow_int (i : Int) : (D.int i).isOwn = false := rfl
theorem ow_str (i : Str) : (D.str i).isOwn = false := rfl
theorem ow_bl (i : Bool) : (D.bl i).isOwn = false := rfl
theorem ow_non : D.non.isOwn = false := rfl
theorem ow_tup (l : List D) : (D.tup l).isOwn = false := rfl
theorem ow_lst (l : List D) : (D.lst l).isOwn = false := rfl
theorem ow_ref (g : Nat) : (D.ref g).isOwn = false := rfl
theorem ow_scr (l : List Int) : (D.scr l).isOwn = false := rfl
theorem ow_exc (c n : Str) (v : D) : (D.exc c n v).isOwn = false := rfl
theorem ow_dct (t : Nat) (c n : List D) : (D.dct t c n).isOwn = false := rfl
theorem ow_own (i : Nat) : (D.own i).isOwn = true := rfl
theorem log2_lt {x : Int} {n : Nat} (h0 : 0 ≤ x) (h : x < 2 ^ n) (hn : 0 < n) : x.natAbs.log2 < n := by
  by_cases hz : x.natAbs = 0
  · rw [hz]; simpa using hn
  · have h2 : (x.natAbs : Int) < ((2 ^ n : Nat) : Int) := by rw [Int.natAbs_of_nonneg h0]; exact_mod_cast h
    exact (Nat.log2_lt hz).mpr (by exact_mod_cast h2)
theorem compL_t {vs : List Nat} {t : Tgt} {c : M Bool} {e : M D} {ds ys : List D} {y : D} {s3 s4 : Sta} (hb : M.bindTo t d s = .ok .nx s1) (hc : c s1 = .ok true s2) (he : e s2 = .ok y s3) (ny : y.isOwn = false) (hr : M.compL vs t c e ds { s3 with ρ := wipeR vs s3.ρ } = .ok ys s4) :
    M.compL vs t c e (d :: ds) s = .ok (y :: ys) s4 := by
  have h1 : M.calm c s1 = .ok true s2 := by unfold M.calm; rw [hc]
  have h2 : M.calm e s2 = .ok y s3 := by unfold M.calm; rw [he]
  unfold M.compL
  rw [bind_ok hb, bind_ok h1, if_pos rfl, bind_ok h2, bind_ok (out_of ny), bind_ok (show M.wipe vs s3 = .ok () { s3 with ρ := wipeR vs s3.ρ } from rfl), bind_ok hr]
  rfl
theorem compL_f {vs : List Nat} {t : Tgt} {c : M Bool} {e : M D} {ds ys : List D} {s4 : Sta} (hb : M.bindTo t d s = .ok .nx s1) (hc : c s1 = .ok false s2) (hr : M.compL vs t c e ds { s2 with ρ := wipeR vs s2.ρ } = .ok ys s4) :
    M.compL vs t c e (d :: ds) s = .ok ys s4 := by
  have h1 : M.calm c s1 = .ok false s2 := by unfold M.calm; rw [hc]
  unfold M.compL
  rw [bind_ok hb, bind_ok h1, if_neg (by simp), bind_ok (show M.wipe vs s2 = .ok () { s2 with ρ := wipeR vs s2.ρ } from rfl), hr]
theorem comp_ok {vs : List Nat} {mi : M (List D)} {t : Tgt} {c : M Bool} {e : M D} {ds ys : List D} (hi : mi s = .ok ds s1) (hl : lenOk (ds.length + 1) = true) (h : M.compL vs t c e ds { s1 with ρ := wipeR vs s1.ρ } = .ok ys s2) : M.comp vs mi t c e s = .ok ys s2 := by
  unfold M.comp
  rw [bind_ok hi, if_pos hl]
  show (M.wipe vs >>= _) s1 = _
  rw [bind_ok (show M.wipe vs s1 = .ok () { s1 with ρ := wipeR vs s1.ρ } from rfl), h]
theorem forL_nx {t : Tgt} {body : M Fl} {ds : List D} (hb : M.bindTo t d s = .ok .nx s1) (h : body s1 = .ok .nx s2) : M.forL t body (d :: ds) s = M.forL t body ds s2 := by
  show (M.bindTo t d >>= _) s = _
  rw [bind_ok hb, bind_ok h]
theorem forL_ct {t : Tgt} {body : M Fl} {ds : List D} (hb : M.bindTo t d s = .ok .nx s1) (h : body s1 = .ok .ct s2) : M.forL t body (d :: ds) s = M.forL t body ds s2 := by
  show (M.bindTo t d >>= _) s = _
  rw [bind_ok hb, bind_ok h]
theorem for_ok {t : Tgt} {body : M Fl} {mi : M (List D)} {ds : List D} (hi : mi s = .ok ds s1) : M.for_ mi t body s = M.forL t body ds s1 := by
  unfold M.for_
  rw [bind_ok hi]
end
end Ms
/-! HotA: tuples taken apart while an exception is handled; a, b = x, y in a suite. -/
namespace HotX
open PySem PySem.Spec PyProof.Rows
section
variable {prog : Program} {w : World} {A : Around} {E : Value → Shared → Prop} {s : Shared}
theorem tuple_end_hot {it t x1 : Addr} {i : Nat} {items : Array Value} {Q : Option Value → Shared → Prop} (hot : HotAt A x1 s.heap) (hne1 : x1 ≠ it)
    (hit : IsTupIter s.heap it t i) (ht : IsTup s.heap t items) (hx : items[i]? = none)
    (hQ : ∀ h', Heap.ExtBut it s.heap h' → Q none { s with heap := h' }) : wpAny (model prog w) A (pyNext (.ref it)) Q E s := by
  obtain ⟨o, ho, hc, hd⟩ := id hit
  obtain ⟨ol, hol, _, nl, hdl⟩ := ht
  obtain ⟨hh, o1, vs1, h1, d1, c1⟩ := hot
  unfold pyNext
  refine wpAny_bind (wpAny_attempt (wpAny_callSpecial?_slot (name := Str.ofString "__next__") hit.typeIs slot_tupleiter_next
    (wpAny_call_entry slot_tupleiter_next hit.typeIs entry_tupleiter_next ?_ (args_tupleiter_next _))))
  show wpAny _ _ (field (.ref it) 0 >>= _) _ _ s
  refine wpAny_bind (wpAny_field ho hd (x := .ref t) rfl ?_)
  show wpAny _ _ (if (Value.ref t == Value.none) = true then _ else _) _ _ s
  rw [if_neg (show ¬ ((Value.ref t == Value.none) = true) from Bool.false_ne_true)]
  show wpAny _ _ (field (.ref it) 1 >>= _) _ _ s
  refine wpAny_bind (wpAny_field ho hd (x := .int i 0) rfl ?_)
  show wpAny _ _ (seqItems? (.ref t) >>= _) _ _ s
  refine wpAny_bind (wpAny_seqItems hol hdl ?_)
  simp only [Int.toNat_natCast, hx]
  refine wpAny_bind (wpAny_rule (wpAny_bind (wpAny_setField ho hd (by simp) ?_)))
  show wpAny _ _ (newExc (.type "StopIteration") [] >>= _) _ _ _
  refine wpAny_bind ?_
  simp only [newExc, newTuple]
  refine wpAny_bind (wpAny_newObj_type ?_ (by size_fits))
  refine wpAny_bind (m := firstArgMember _ _) (wpAny_of_eq (a := Value.none) (by first | rfl | (simp only [firstArgMember]; rfl)) ?_)
  refine wpAny_newObj_type ?_ (by size_fits)
  have sb := Heap.SameBut.update (h := s.heap) (a := it) (f := Obj.mapFields (·.setIfInBounds 0 .none))
  have k : ∀ b u, b ≠ it → s.heap.get? b = some u → (((s.heap.update it (Obj.mapFields (·.setIfInBounds 0 .none))).push { cls := .type "tuple", data := .seq #[] }).push
    { cls := .type "StopIteration", data := .fields #[.ref (s.heap.update it (Obj.mapFields (·.setIfInBounds 0 .none))).objs.size, .none, .none, .none, .bool false, .none] }).get? b = some u := fun b u hb e =>
      Heap.get?_push_of_some _ (Heap.get?_push_of_some _ (by rw [Heap.get?_update_other _ _ (Ne.symm hb)]; exact e))
  refine raiseNew_hot ⟨hh, o1, vs1, k _ _ hne1 h1, d1, c1⟩ (Nat.ne_of_lt (Heap.lt_size (Heap.get?_push_of_some _ (by rw [Heap.get?_update_other _ _ (Ne.symm hne1)]; exact h1)))) (Heap.get?_push_size _ rfl) rfl (by first | (simp; done) | (simp; omega) | (simp only [Array.size_append]; simp; omega)) ?_
  refine wpAny_bind (wpAny_isInstance (T := "StopIteration") (b := true) ⟨_, Heap.get?_update_self _ (Heap.get?_push_size _ rfl) rfl, rfl⟩ isSubtype_stop ?_)
  refine wpAny_pure (hQ _ fun b u hb e => ?_)
  have e2 := k b u hb e
  rw [Heap.get?_update_other _ _ (Nat.ne_of_gt (Heap.lt_size (Heap.get?_push_of_some _ (by rw [Heap.get?_update_other _ _ (Ne.symm hb)]; exact e))))]
  exact e2
theorem unpackItems_tuple_hot {t x1 : Addr} {items : Array Value} {Q : List Value → Shared → Prop} (hot : HotAt A x1 s.heap) (ht : IsTup s.heap t items)
    (hQ : ∀ h', Heap.ExtBut s.heap.objs.size s.heap h' → Q items.toList { s with heap := h' }) : wpAny (model prog w) A (unpackItems (.ref t) items.size none) Q E s := by
  have hlt : t ≠ s.heap.objs.size := by obtain ⟨o, ho, _⟩ := ht; exact Nat.ne_of_lt (Heap.lt_size ho)
  obtain ⟨hh, o1, vs1, h1, d1, c1⟩ := hot
  have hx1 : x1 ≠ s.heap.objs.size := Nat.ne_of_lt (Heap.lt_size h1)
  unfold unpackItems
  refine wpAny_bind ?_
  · unfold notIterableAtAll
    refine wpAny_bind (wpAny_specialOf ht.typeIs slot_tuple_iter.lookup ?_)
    refine wpAny_pure ?_
    simp only [Bool.false_eq_true, if_false]
    refine wpAny_bind (wpAny_holding (iter_tuple ht ?_))
    refine wpAny_bind (wpAny_holding (draw_tuple hlt items.size 0 _ _ ⟨_, Heap.get?_push_size _ rfl, rfl, rfl⟩ (ht.push _) (by omega) fun h₁ hit₁ hs₁ => ?_))
    have hall : List.take items.size (List.drop 0 items.toList) = items.toList := by
      rw [List.drop_zero]; exact List.take_of_length_le (by simp)
    rw [hall]
    rw [if_neg (by simp)]
    have ht₁ : IsTup h₁ t items := (ht.push _).extBut hs₁.extBut hlt
    have hot1 : HotAt A x1 h₁ := ⟨hh, o1, vs1, hs₁.extBut x1 _ hx1 (Heap.get?_push_of_some _ h1), d1, c1⟩
    refine wpAny_bind (wpAny_holding (tuple_end_hot hot1 hx1 hit₁ ht₁ (by simp) fun h₂ he₂ => ?_))
    simp only [Option.isSome_none, Bool.false_eq_true, if_false]
    refine wpAny_pure (hQ h₂ fun b o hb e => he₂ b o hb (hs₁.extBut b o hb (Heap.get?_push_of_some _ e)))
theorem assign_Tuple_hot {env : Env} {elts : List Expr} {x0} {pos : Pos} {t x1 : Addr} {items : Array Value} {Q : Unit → Shared → Prop} (hot : HotAt A x1 s.heap) (ht : IsTup s.heap t items)
    (hn : (assignEach elts env).length = items.size) (hstar : (assignEach elts env).findIdx? (·.1) = none)
    (h : ∀ h', Heap.ExtBut s.heap.objs.size s.heap h' → wpAny (model prog w) A (assignInOrder ((assignEach elts env).map (·.2)) items.toList) Q E { s with heap := h' }) :
    wpAny (model prog w) A (assign (.Tuple elts x0 pos) env (.ref t)) Q E s := by
  rw [assign_Tuple]
  refine wpAny_bind (wpAny_standAt ?_)
  unfold unpack
  rw [hn, hstar]
  exact wpAny_bind (wpAny_holding (unpackItems_tuple_hot hot ht h))
end
end HotX
namespace L2H
open PySem PySem.Spec PyProof.Rows L2 HotX
section
variable {X : Cx} {pos : Pos}
theorem pg_tupH {es : List Expr} {k : Nat} {t : TGs} {n : Nat} (hc : HotC X) (h : PGs X es t)
    (hn : (assignEach es X.env).length = n := by rfl) (hst : (assignEach es X.env).findIdx? (·.1) = none := by rfl) : PG X (.Tuple es k pos) (gTup X.K n t) := by
  refine ⟨fun pins s σ H v u Q I r hw => ?_⟩
  obtain ⟨a, xs, e1, hq, hl, hw⟩ := hw
  subst e1
  cases r
  obtain ⟨its, rv, ht, hz⟩ := I.tuple hq
  obtain ⟨x1, hot⟩ := hc.at I
  refine assign_Tuple_hot hot ht (by simp [hn, ← hl, rv.length]) hst fun h' hx => ?_
  have I1 : Inv X pins σ H { s with heap := h' } := I.kept (t' := s.toks) fun b o e => hx b o (Nat.ne_of_lt (Heap.lt_size e)) e
  exact h.run pins _ σ H xs _ Q I1 (by simpa using rv) hw
theorem ps_parH {i j : Nat} {x y : Str} {a b : Expr} {ta : TA} {px py pt : Pos} {kt k2 pt2} (hc : HotC X) (hN : X.N.Nodup) (hi : X.N[i]? = some x) (hj : X.N[j]? = some y) (hij : i ≠ j)
    (hx : X.env.scope.names.lookup x = some .local) (hy : X.env.scope.names.lookup y = some .local) (ha : PA X [a, b] ta)
    (hw : swappedStores [.Tuple [.Name x px, .Name y py] kt pt] (.Tuple [a, b] k2 pt2) X.env = pure (some [x, y]))
    (hs : swapsWithSole [.Tuple [.Name x px, .Name y py] kt pt] (.Tuple [a, b] k2 pt2) pos.line X.env = pure false := by rfl) :
    PS X (.Assign [.Tuple [.Name x px, .Name y py] kt pt] (.Tuple [a, b] k2 pt2) pos) (tPar i j ta) := by
  refine ⟨fun pins s σ H D I h => ?_⟩
  rw [exec_Assign_arm]
  refine wpAny_bind (wpAny_standAt ?_)
  rw [hs]
  refine wpAny_bind (wpAny_pure ?_)
  rw [if_neg (by decide)]
  refine wpAny_bind (Tuple_ (thn (ha.run _ pins s σ H _ I h) fun us s1 ⟨vs, H1, I1, r1, q1⟩ => ?_))
  obtain ⟨v, w, e1, q1⟩ := q1
  subst e1
  obtain ⟨u1, u2, rfl, rv, rw'⟩ : ∃ u1 u2, us = [u1, u2] ∧ RelV v u1 ∧ RelV w u2 := by
    cases r1 with
    | cons p q =>
      cases q with
      | cons p' q' =>
        cases q'
        exact ⟨_, _, rfl, p, p'⟩
  refine wpAny_newObj_type ?_ (by show 2 ≤ sizeLine; decide)
  have I2 : Inv X pins σ H1 { s1 with heap := s1.heap.push { cls := .type "tuple", data := .seq [u1, u2].toArray } } := I1.kept (t' := s1.toks) fun b o e => Heap.get?_push_of_some _ e
  rw [hw]
  refine wpAny_bind (wpAny_pure ?_)
  show wpAny (model X.prog X.w) X.A (do rule "assign.swapped-stores"; let items ← unpackItems (.ref s1.heap.objs.size) 2 none; assignInOrder [fun v => bindName X.env y v, fun v => bindName X.env x v] items.reverse; pure Flow.next) _ _ _
  obtain ⟨x1, hot⟩ := hc.at I2
  refine wpAny_bind (wpAny_rule (wpAny_bind (unpackItems_tuple_hot (items := #[u1, u2]) hot (IsTup.new s1.heap _) fun h' hx' => ?_)))
  have I3 := I2.kept (h' := h') (t' := s1.toks) fun b o e => hx' b o (Nat.ne_of_lt (Heap.lt_size e)) e
  show wpAny _ _ (assignInOrder [fun v => bindName X.env y v, fun v => bindName X.env x v] [u2, u1] >>= fun _ => pure Flow.next) _ _ _
  refine wpAny_bind (assignInOrder_cons (wpAny_bindName (store_ok I3 hN hj (.inl hy) rw' (fun s2 I4 => ?_) (.inr hy))))
  refine assignInOrder_cons (wpAny_bindName (store_ok I4 hN hi (.inl hx) rv (fun s3 I5 => assignInOrder_nil (wpAny_pure ?_)) (.inr hx)))
  rw [List.set_comm _ _ (Ne.symm hij)] at I5
  exact ⟨_, H1, I5, q1⟩
end
end L2H
/-! HotB: a list comprehension over range within an except suite (turned from the library's, with the handled exception pinned in the block). -/
namespace L2H
open PySem PySem.Spec PyProof.Rows L2 HotX
abbrev blkH (X : Cx) (p : Addr × Obj) (s : Shared) (H : Hp) (scope : Scope) (cenv : Env) (fp : List Addr) : Cx := { X.blk s H scope cenv fp with pn := [p] }
section
variable {X : Cx} {pins : List (Addr × Obj)} {σ : L2.St} {H : Hp} {s : Shared}
theorem block_startH {p : Addr × Obj} (hp : p ∈ X.pn) {scope : Scope} {own : List (Str × Nat)} {fp : List Addr} (I : Inv X pins σ H s) (ok : BlkOk X.N X.env.scope scope own) (hN : X.N.Nodup) (hfp : ∀ b ∈ fp, FpOk X pins H b ∧ b < s.heap.objs.size) :
    Inv (blkH X p s H scope (compEnvC scope (cellsFrom (s.heap.objs.size + 1) scope.names (cloFrom X.env.cells scope.names [])) s.heap.objs.size X.env) fp) [] (wipe σ (own.map (·.2))) H { s with heap := pushCells (s.heap.push { cls := .type "dict", data := .dict #[] }) scope.names } := by
  have J := block_start I ok hN hfp
  obtain ⟨e, n, ne, nf, d⟩ := I.pin p (List.mem_append_left _ hp)
  refine ⟨⟨J.ok.mod, J.ok.kind, J.ok.glob, J.ok.blt, J.ok.above, J.ok.inj, J.ok.has, J.ok.cab, J.ok.hd, J.ok.frames, J.ok.stk, J.ok.exf, J.ok.bs, J.ok.bsz, J.ok.noex, J.ok.exfs, J.ok.funs, J.ok.frf⟩, J.os, J.bare, J.base, J.loc, J.cell, J.free, J.freeC, fun q hq => ?_, J.hok, J.len⟩
  obtain rfl : q = p := by simpa using hq
  refine ⟨pushCells_keeps _ _ _ _ (Heap.get?_push_of_some _ e), n, Nat.ne_of_lt (Heap.lt_size e), fun hb => ?_, d⟩
  exact (List.mem_cons.mp (I.stkSub q.1 hb)).elim ne nf
theorem lc_coreH {p : Addr × Obj} {pins : List (Addr × Obj)} {s : Shared} {σ : St} {H : Hp} {Q : VK} {elt tg iter : Expr} {ifs : List Expr} {scope : Scope} {own : List (Str × Nat)} {pos pos' : Pos} {wi : TI} {g : TG} {tt : TT} {te : TE} {use : Option (Value → Sem Unit)} {Qf : Value → Shared → Prop}
    (h1 : Hot1 X.A p) (hp : p ∈ X.pn) (hN : X.N.Nodup) (I : Inv X pins σ H s) (hi : PIH X tg iter wi) (ok : BlkOk X.N X.env.scope scope own)
    (hg : ∀ (s : Shared) (H : Hp) (C : Addr) (cl : List (Str × Addr)) (fp : List Addr), PG (blkH X p s H scope (compEnvC scope cl C X.env) fp) tg g) (ht : ∀ (s : Shared) (H : Hp) (C : Addr) (cl : List (Str × Addr)) (fp : List Addr), PTs (blkH X p s H scope (compEnvC scope cl C X.env) fp) ifs tt)
    (he : ∀ (s : Shared) (H : Hp) (C : Addr) (cl : List (Str × Addr)) (fp : List Addr), PE (blkH X p s H scope (compEnvC scope cl C X.env) fp) elt te) (hs : ∀ x, foldedSetIterable iter X.env x = pure x)
    (h : tLc wi g tt te (own.map (·.2)) σ H Q)
    (hRR : ∀ D C s' m H', Inv X pins σ H' s' → Q (.ref D) H' → s'.heap.Ns C m → FpOk X pins H' C → compPost (model X.prog X.w) X.A X.xe use Qf (.ref D) C (.ok .next) s') :
    wpAny (model X.prog X.w) X.A (comprehension (.ListComp elt [⟨tg, iter, ifs, 0⟩] scope pos) scope X.env pos' (newList []) false (eval iter X.env) use) Qf X.xe s := by
  have hot : ∀ {s H env fp}, HotC (blkH X p s H scope env fp) := ⟨p, h1, List.mem_singleton_self p⟩
  have hfree : ∀ y ∈ scope.names, y.2 = .free → ∃ c, X.env.cells.lookup y.1 = some c := fun y hy e => by
    rcases ok.free y hy e with k | k
    · exact I.ok.has _ (.inl k)
    · exact I.ok.has _ (.inr k)
  refine wpAny_comprehension_free (use := use) rfl hs (closure_ok hfree) ok.kind (fun y hy e => by rw [ok.uniq y hy, e])
    (thn (hi.run pins s σ H _ I h) fun xv s1 hx => thn hx fun itv s2 h2 => ?_)
  obtain ⟨it, fp, tn, J, H2, e, I2, T, st2, f2, q⟩ := h2
  subst e
  refine wpAny_newObj_type (newEnv_comp ?_) (by show 0 ≤ sizeLine; decide)
  generalize hD : s2.heap.objs.size = D
  have hDn : H2 D = none := I2.hok.fresh (Nat.le_of_eq hD)
  obtain ⟨W, ⟨m0, w0⟩, turn⟩ := q D hDn
  -- the new list
  generalize hs3 : ({ s2 with heap := s2.heap.push { cls := .type "list", data := .seq ([] : List Value).toArray } } : Shared) = s3
  have I3 : Inv X pins σ (upd H2 D (.lst [])) s3 := by
    rw [← hs3]
    refine I2.laid (t' := s2.toks) (fun b o e => Heap.get?_push_of_some _ e) (Nat.le_of_eq hD) ⟨Nat.zero_le _, [], 0, .nil, ?_⟩
    rw [← hD]
    exact Heap.get?_push_size _ rfl
  have h3 : s3.heap = s2.heap.push { cls := .type "list", data := .seq ([] : List Value).toArray } := by rw [← hs3]
  have sz : ∀ b ∈ fp, b < s2.heap.objs.size := fun b hb => by
    obtain ⟨o, e, _⟩ := T.obj _ _ st2 b hb
    exact Heap.lt_size e
  have f3 : ∀ b ∈ fp, FpOk X pins (upd H2 D (.lst [])) b ∧ b < s3.heap.objs.size := fun b hb => by
    have hlt := sz b hb
    refine ⟨⟨?_, (f2 b hb).2⟩, by rw [h3, Heap.size_push]; exact Nat.lt_succ_of_lt hlt⟩
    rw [upd_ne (by rw [← hD]; exact Nat.ne_of_lt hlt)]
    exact (f2 b hb).1
  have st3 : tn 0 s3.heap := T.keep _ _ _ st2 fun b _ o e => by rw [h3]; exact Heap.get?_push_of_some _ e
  have I4 := block_startH hp I3 ok hN f3
  have pg := hg s3 (upd H2 D (.lst [])) s3.heap.objs.size (cellsFrom (s3.heap.objs.size + 1) scope.names (cloFrom X.env.cells scope.names [])) fp
  have pt := ht s3 (upd H2 D (.lst [])) s3.heap.objs.size (cellsFrom (s3.heap.objs.size + 1) scope.names (cloFrom X.env.cells scope.names [])) fp
  have pe := he s3 (upd H2 D (.lst [])) s3.heap.objs.size (cellsFrom (s3.heap.objs.size + 1) scope.names (cloFrom X.env.cells scope.names [])) fp
  show codeAny _ _ (.compStart (.ListComp elt [⟨tg, iter, ifs, 0⟩] scope pos) 0 (.ref it) (.ref D) (compEnvC scope (cellsFrom (s3.heap.objs.size + 1) scope.names (cloFrom X.env.cells scope.names [])) s3.heap.objs.size X.env)) (compPost (model X.prog X.w) X.A X.xe use Qf (.ref D) s3.heap.objs.size) { s3 with heap := pushCells (s3.heap.push { cls := .type "dict", data := .dict #[] }) scope.names }
  have nfp : ∀ b ∈ fp, (upd H2 D (.lst [])) b = none := fun b hb => (f3 b hb).1.1
  generalize hce : compEnvC scope (cellsFrom (s3.heap.objs.size + 1) scope.names (cloFrom X.env.cells scope.names [])) s3.heap.objs.size X.env = ce at I4 pg pt pe ⊢
  have cL : ce.locals = s3.heap.objs.size := by subst hce; rfl
  generalize hH3 : upd H2 D (.lst []) = H3 at I3 I4 pg pt pe w0 nfp f3
  generalize hs4 : ({ s3 with heap := pushCells (s3.heap.push { cls := .type "dict", data := .dict #[] }) scope.names } : Shared) = s4 at I4 ⊢
  have st4 : tn 0 s4.heap := T.keep _ _ _ st3 fun b _ o e => by rw [← hs4]; exact pushCells_keeps _ _ _ _ (Heap.get?_push_of_some _ e)
  have stat : ∀ {σ' : St} {H' : Hp} {s' : Shared}, Inv (blkH X p s3 H3 scope ce fp) [] σ' H' s' → (∀ b ∈ fp, H' b = none) → ∀ b ∈ fp, FpOk (blkH X p s3 H3 scope ce fp) [] H' b := fun {σ' H' s'} I' hn b hb =>
    ⟨hn b hb, (I'.ok.exf b hb).1, I'.ok.exfs b hb, .inl hb, fun x c e => (I'.ok.exf b hb).2 x c e, fun q hq => by
      obtain rfl : q = p := by simpa using hq
      exact (f2 b hb).2.2.2.2.2 q (List.mem_append_left _ hp)⟩
  have loop : codeAny (model X.prog X.w) X.A (.compLoop (.ListComp elt [⟨tg, iter, ifs, 0⟩] scope pos) 0 (.ref it) (.ref D) ce) (compPost (model X.prog X.w) X.A X.xe use Qf (.ref D) s3.heap.objs.size) s4 := by
    refine compLoop_any (fun n s' => ∃ i H', Inv (blkH X p s3 H3 scope ce fp) [] (wipe σ (own.map (·.2))) H' s' ∧ tn i s'.heap ∧ (∀ b ∈ fp, H' b = none) ∧ W i n H') ?_ m0 ⟨0, H3, I4, st4, nfp, w0⟩
    rintro n s5 ⟨i, H5, I5, st5, n5, w5⟩
    rcases turn i n H5 w5 with ⟨stop, qq⟩ | ⟨go, Nx, hNx, step⟩
    · have td := T.done (blkH X p s3 H3 scope ce fp) rfl rfl rfl hot i [] s5 _ H5 (fun _ _ => False) I5 (stat I5 n5) st5 stop
      refine thnF td fun r s6 ⟨hr, I6⟩ => ?_
      subst hr
      -- back in the def's context
      have I7 : Inv X pins σ H5 s6 := I3.call' (ch := fp) I6.os I6.base I6.hok I6.bare fun b hb => ⟨(f3 b hb).1.2.2.2.1, (f3 b hb).1.2.1, (f3 b hb).1.2.2.2.2.1, (f3 b hb).1.2.2.2.2.2⟩
      have nC : H5 s3.heap.objs.size = none := by
        have z : H5 ce.locals = none := I6.free
        rw [cL] at z
        exact z
      obtain ⟨m, hn, _⟩ := I6.loc
      have hn : s6.heap.Ns ce.locals m := hn
      rw [cL] at hn
      exact hRR D s3.heap.objs.size s6 m H5 I7 qq hn (I3.fpOk (Nat.le_refl _) nC)
    · have ti := T.item (blkH X p s3 H3 scope ce fp) rfl rfl rfl hot i [] s5 _ H5 (fun _ _ => False) I5 (stat I5 n5) st5 go
      refine thnF ti fun r s6 ⟨u, hr, h6⟩ => ?_
      subst hr
      refine thnF h6 fun _ s7 ⟨x, H7, I7, r7, y7, st7, n7⟩ => ?_
      have I7' := I7.pinned (stat I7 n7) (T.obj _ _ st7)
      refine thnF (pg.run _ s7 _ H7 x u _ I7' r7 (step x H7 y7)) fun _ s8 ⟨σ8, H8, I8, hw8, q8⟩ => ?_
      refine thnF (pt.run _ s8 σ8 H8 _ I8 q8) fun b s9 ⟨H9, I9, q9⟩ => ?_
      -- the turn's end
      have fin : ∀ {s' : Shared} {H' : Hp}, Inv (blkH X p s3 H3 scope ce fp) ([] ++ pinsAt fp s7.heap) σ8 H' s' → Nx H' → ∃ m, m < n ∧ ∃ i H', Inv (blkH X p s3 H3 scope ce fp) [] (wipe σ (own.map (·.2))) H' s' ∧ tn i s'.heap ∧ (∀ b ∈ fp, H' b = none) ∧ W i m H' := fun {s' H'} I' nx => by
        obtain ⟨m', hm, w'⟩ := hNx H' nx
        have pin' : ∀ b ∈ fp, ∀ o, s7.heap.get? b = some o → s'.heap.get? b = some o ∧ H' b = none := fun b hb o e =>
          let z := I'.pin (b, o) (List.mem_append_right _ (List.mem_append_right _ (mem_pinsAt hb e)))
          ⟨z.1, z.2.1⟩
        have hl : (wipe σ (own.map (·.2))).length = σ8.length := by rw [← hw8, wipe_length]
        refine ⟨m', hm, i + 1, H', (I'.unpinned (pins := [])).weak hl (fun j v e => ?_), T.keep _ _ _ st7 fun b hb o e => (pin' b hb o e).1, fun b hb => ?_, w'⟩
        · rw [← hw8] at e
          exact (wipe_some e).1
        · obtain ⟨o, e, _⟩ := T.obj _ _ st7 b hb
          exact (pin' b hb o e).2
      cases b with
      | false =>
        simp only [Bool.false_eq_true, if_false] at q9 ⊢
        exact fin I9 q9
      | true =>
        simp only [if_true] at q9 ⊢
        refine thnF (pe.run _ s9 σ8 H9 _ I9 q9) fun z s10 ⟨yv, H10, I10, r10, acc, hD10, hz10, nx⟩ => ?_
        exact app_ok (X := blkH X p s3 H3 scope ce fp) I10 hD10 hz10 r10 fun s11 I11 => fin I11 nx
  exact codeAny_compStart_list loop (T.self X.A 0 _ _ _ st4 loop)
/-- as a value -/
theorem pe_lcH {p : Addr × Obj} {elt tg iter : Expr} {ifs : List Expr} {scope : Scope} {own : List (Str × Nat)} {pos : Pos} {wi : TI} {g : TG} {tt : TT} {te : TE} (h1 : Hot1 X.A p) (hp : p ∈ X.pn) (hN : X.N.Nodup) (hi : PIH X tg iter wi) (ok : BlkOk X.N X.env.scope scope own)
    (hg : ∀ (s : Shared) (H : Hp) (C : Addr) (cl : List (Str × Addr)) (fp : List Addr), PG (blkH X p s H scope (compEnvC scope cl C X.env) fp) tg g) (ht : ∀ (s : Shared) (H : Hp) (C : Addr) (cl : List (Str × Addr)) (fp : List Addr), PTs (blkH X p s H scope (compEnvC scope cl C X.env) fp) ifs tt)
    (he : ∀ (s : Shared) (H : Hp) (C : Addr) (cl : List (Str × Addr)) (fp : List Addr), PE (blkH X p s H scope (compEnvC scope cl C X.env) fp) elt te) (hs : ∀ x, foldedSetIterable iter X.env x = pure x := by intro _; rfl) :
    PE X (.ListComp elt [⟨tg, iter, ifs, 0⟩] scope pos) (tLc wi g tt te (own.map (·.2))) := by
  refine ⟨fun pins s σ H Q I h => ?_⟩
  rw [eval_ListComp]
  refine lc_coreH h1 hp hN I hi ok hg ht he hs h fun D C s' m H' I' q hn f => ⟨m, hn, fun h'' sb => ?_⟩
  obtain ⟨f0, f1, f2, f3, f4, f5⟩ := f
  exact ⟨.ref D, H', I'.turned (t' := s'.toks) (fun b o hb e => (sb.2 b hb).trans e) f0 f1 f3 f4 f5, rfl, q⟩
end
end L2H
/-! HotC: defs called in a suite, what they do told by the handled exception (turned from HandS.HotCalls, where it may not be told). -/
namespace L2H
open PySem PySem.Spec PyProof.Rows L2 HotX
structure FnHp (P : Program) (w : World) (K : PySem.W.Frag) (mg : Str → Option Value) (base : Heap) (CX : CXT) (k : Nat) (f : Addr) (fd : FuncData) (ps : List Str) (sp : Addr × Obj → Sp) : Prop where
  len : ∀ p vs H Q E, sp p vs H Q E → vs.length = ps.length
  run : ∀ (A : Around) (outer : List Env) (s : Shared) (H : Hp) (args : Args) (us : List Value) (vs : List V) (Q : VK) (E : XK) (p : Addr × Obj), RoomH k A → Hot1 A p → PinOk outer H s p → Env0 P w K mg base A outer s H → BindsTo s fd args (ps.zip us) → Vals vs us → sp p vs H Q E →
    codeAny (model P w) A (.call (.ref f) args) (CR CX outer P w H s Q E) s
theorem fn_ofHp {CX : CXT} {P : Program} {w : World} {K : PySem.W.Frag} {mg : Str → Option Value} {base : Heap} {k : Nat} {f : Addr} {name qual : Str} {params : Arguments} {body : List Stmt} {scope : Scope} {dV kV doc pm cdv ct oc : Value} {an od : Option Addr}
    {osl : Array (Option Value)} {N ps : List Str} {sp : Addr × Obj → Sp} (lk : K.lookup f = some ⟨oc, od, .func (PySem.W.fnOf name qual params body scope dV kV doc pm an cdv ct), osl⟩) (hcd : PySem.W.codeIn K cdv qual = true) (S : FnScope N ps scope)
    (len : ∀ p vs H Q E, sp p vs H Q E → vs.length = ps.length)
    (hbody : ∀ (A : Around) (outer : List Env) (s : Shared) (H : Hp) (vs : List V) (Q : VK) (E : XK) (p : Addr × Obj), Hot1 A p → RoomH k (A.deeper (envOfC qual scope s.heap.objs.size f cdv)) → sp p vs H Q E →
      ∃ t, PSs (cxH CX P w K mg base N qual scope f cdv A outer s H E p) body t ∧ t { nx := fun _ H' => Q .non H', rt := Q } (L2.start N vs) H) :
    FnHp P w K mg base CX (k + 1) f (PySem.W.fnOf name qual params body scope dV kV doc pm an cdv ct) ps sp := by
  refine ⟨len, fun A outer s H args us vs Q E p hr hot hpin e0 hb r hsp => ?_⟩
  have hl := len _ _ _ _ _ hsp
  have KX : K.In s.heap := e0.mod.kin.keeps fun b o e => (e0.bs b o e).1
  have lim : s.heap.NoLimit := e0.mod.nolimit.keeps fun b o e => (e0.bs b o e).1
  have hkind : ∀ y ∈ ps.zip us, scope.names.lookup y.1 = some .local ∨ (scope.names.lookup y.1 = some .cell ∧ ((cellsFrom (s.heap.objs.size + 1) scope.names []).lookup y.1).isSome = true) := fun ⟨n, v⟩ hy => by
    rcases S.par n (List.of_mem_zip hy).1 with q | q
    · exact .inl q
    · exact .inr ⟨q, PySem.W.cellsFrom_some _ _ _ (.inl q)⟩
  refine codeAny_call_function hr.depth (KX _ _ lk) rfl S.co S.gen rfl (PySem.W.codeRec_of KX hcd) (hb _ _ _ _ ?_)
  refine wpAny_newFunctionEnv_cells S.kind hkind fun env he s1 x => ?_
  subst he
  refine ⟨lim.keeps x.toInCall.keep, codeAny_func ?_⟩
  obtain ⟨t, ht, hq⟩ := hbody A outer s H vs Q E p hot (hr.deeper _) hsp
  have I : Inv (cxH CX P w K mg base N qual scope f cdv A outer s H E p) [] (L2.start N vs) H s1 := inv_startH S hpin e0 hl r x
  refine wpAny_mono (ht.run [] s1 (L2.start N vs) H _ I hq) (fun fl s' hs => ?_) fun e s' hs => hs
  have fin : ∀ {σ' : St} {H' : Hp} {v : V} {u : Value}, Inv (cxH CX P w K mg base N qual scope f cdv A outer s H E p) [] σ' H' s' → RelV v u → Q v H' → CE outer P w H s Q u s' :=
    fun {σ' H' v u} J rv q => ⟨v, H', J.os, J.bare, J.base, J.hok, rv, q⟩
  cases fl with
  | ret u =>
    obtain ⟨v, σ', H', J, rv, q⟩ := hs
    exact fin J rv q
  | next =>
    obtain ⟨σ', H', J, q⟩ := hs
    exact fin (v := V.non) (u := Value.none) J rfl q
  | brk =>
    obtain ⟨_, _, _, q⟩ := hs
    exact False.elim q
  | cont =>
    obtain ⟨_, _, _, q⟩ := hs
    exact False.elim q
section
variable {X : Cx} {CX : CXT} {k : Nat} {f C : Addr} {fd : FuncData} {ps : List Str} {sp : Addr × Obj → Sp} {p : Addr × Obj} {E : L2.St → XK} {x m : Str} {q pos apos : Pos} {e o : Expr} {es : List Expr} {ta : TE} {t : TA}
theorem run_fnHp {pins : List (Addr × Obj)} {σ : St} {H : Hp} {s : Shared} {Q : VK} {us : List Value} {vs : List V} (F : FnHp X.prog X.w X.K X.mg X.base CX k f fd ps sp) (hr : RoomH k X.A) (hot : Hot1 X.A p) (hp : p ∈ X.pn) (hb : Binds X.K fd ps []) (hx : PassesAt CX X σ (E σ))
    (I : Inv X pins σ H s) (r : Vals vs us) (h : sp p vs H Q (E σ)) : wpAny (model X.prog X.w) X.A (call (.ref f) us) (EP X pins σ Q) X.xe s := by
  have hl : us.length = ps.length := by rw [← r.length]; exact F.len _ _ _ _ _ h
  have b := hb s us I.kIn (by rw [List.append_nil]; exact hl)
  rw [List.append_nil] at b
  have P1 := I.pin p (List.mem_append_left _ hp)
  have hpin : PinOk X.stack H s p := ⟨P1.1, P1.2.1, fun hm => (List.mem_cons.mp (I.stkSub p.1 hm)).elim P1.2.2.1 P1.2.2.2.1, P1.2.2.2.2⟩
  refine wpAny_call (codeAny_mono (F.run X.A X.stack s H ⟨us, []⟩ us vs Q (E σ) p hr hot hpin I.env0 b r h) fun r s' hq => ?_)
  cases r with
  | error e => exact hx pins H s e s' I hq
  | ok fl =>
    cases fl with
    | ret u => exact I.after hq
    | next => exact False.elim hq
    | brk => exact False.elim hq
    | cont => exact False.elim hq
theorem pe_callHp (F : FnHp X.prog X.w X.K X.mg X.base CX k f fd ps sp) (hr : RoomH k X.A) (hot : Hot1 X.A p) (hp : p ∈ X.pn) (hg : Gl X x) (hm : X.mg x = some (.ref f)) (hk : PySem.W.keepIn X.K (.ref f) = true) (hb : Binds X.K fd ps []) (hx : ∀ σ, PassesAt CX X σ (E σ))
    (ha : PA X (e :: es) t) (hdb : (x == ("__debug__" : Str)) = false := by decide) (he : starEach (e :: es) X.env = (false, eval e X.env) :: starEach es X.env := by rfl) (hpl : (backTo pos (starEach es X.env)).any (·.1) = false := by rfl) :
    PE X (.Call (.Name x q) (e :: es) [] pos) (tCallS (sp p) E t) := by
  refine ⟨fun pins s σ H Q I h => ?_⟩
  refine wpAny_Call_Name_kw (ld_glob I hg hm ?_ hdb)
  refine PySem.W.callWith_K (h₀ := X.base) I.ok.mod.kin hk (thn (ha.run pos pins s σ H _ I h) fun us s1 ⟨vs, H1, I1, r, q⟩ => ⟨I1.kIn, ?_⟩) he hpl
  exact run_fnHp F hr hot hp hb (hx σ) I1 r q
end
end L2H
/-! Ms20: except suites at the data level; defs called there. -/
namespace Ms
open PySem PySem.Spec PyProof.Rows L2
/-! ### defs called in a suite -/
abbrev RCp (K : PySem.W.Frag) (mg : Str → Option Value) (p : Addr × Obj) : RC := ⟨K, mg, some p⟩
/-- the context of such a def's body -/
abbrev XH (P : Program) (w : World) (K : PySem.W.Frag) (mg : Str → Option Value) (base : Heap) (N : List Str) (qual : Str) (scope : Scope) (f : Addr) (cdv : Value) (A : Around) (outer : List PySem.Env) (s : Shared) (H : Hp) (E : XK) (p : Addr × Obj) : Cx :=
  L2H.cxH (CXn P w) P w K mg base N qual scope f cdv A outer s H E p
section
variable {P : Program} {w : World} {K : PySem.W.Frag} {mg : Str → Option Value} {base : Heap} {x qual : Str} {params : Arguments} {body : List Stmt} {scope : Scope} {dvs : List V} {kws : List (Str × V)} {f : Addr} {fd : FuncData}
theorem fnHD {N ps : List Str} {k : Nat} {m : M Fl} (Fd : FunD K x qual params body scope dvs kws f fd) (S : FnScope N ps scope) (hl : ps.length ≤ N.length)
    (hb : ∀ (cdv : Value) (A : Around) (outer : List PySem.Env) (s : Shared) (H : Hp) (E : XK) (p : Addr × Obj), L2H.Hot1 (XH P w K mg base N qual scope f cdv A outer s H E p).A p → L2H.RoomH k (XH P w K mg base N qual scope f cdv A outer s H E p).A → L2N.Takes (XH P w K mg base N qual scope f cdv A outer s H E p) (WB E) →
      PSs (XH P w K mg base N qual scope f cdv A outer s H E p) body (tDS (RCp K mg p) (WB E) m)) : L2H.FnHp P w K mg base (CXn P w) (k + 1) f fd ps (fun p => spOf (RCp K mg p) ps.length (runFn N.length ps.length m)) := by
  obtain ⟨oc, od, dV, kV, doc, pm, an, cdv, ct, osl, rfl, lk, hcd, _, _⟩ := Fd.ex
  refine L2H.fn_ofHp lk hcd S (fun p vs H Q E h => h.1) (fun A outer s H vs Q E p hot hr h => ⟨_, hb cdv A outer s H E p hot hr (L2N.takes_of rfl rfl rfl rfl), ?_⟩)
  obtain ⟨ev, F, μ, G, ds, r, ha, q⟩ := h
  have el := ha.length
  obtain ⟨r0, n0⟩ := r.enter ha (N := N) (by omega)
  refine ⟨F, μ, _, r0, ?_⟩
  have eN : N.length - ds.length = N.length - ps.length := by omega
  unfold runFn at q
  rw [if_pos (by omega), ← eN] at q
  unfold ResS
  cases em : m ⟨ds.map .val ++ List.replicate (N.length - ds.length) .no, G⟩ with
  | stuck => rw [em] at q; exact q.elim
  | exc e s' =>
    rw [em] at q
    intro cls dx μ' σ' H' y hx
    exact q cls dx μ' H' (y.leave n0) (hx.mono fun a t => tab_bare t)
  | ok fl s' =>
    rw [em] at q
    intro μ' σ' H' y
    cases fl with
    | nx => exact q .non μ' H' (y.leave n0) .non
    | rt d => exact fun v hv => q v μ' H' (y.leave n0) (hv.mono fun a t => tab_bare t)
    | bk => exact q.elim
    | ct => exact q.elim
end
def DefH (P : Program) (w : World) (K : PySem.W.Frag) (mg : Str → Option Value) (base : Heap) (x : Str) (k n : Nat) (m : Fn) : Prop :=
  (∀ ds G, m ds G ≠ .stuck → ds.length = n) ∧ ∃ (f : Addr) (fd : FuncData) (ps : List Str), L2H.FnHp P w K mg base (CXn P w) k f fd ps (fun p => spOf (RCp K mg p) n m) ∧ mg x = some (.ref f) ∧ PySem.W.keepIn K (.ref f) = true ∧ Binds K fd ps []
section
variable {X : Cx} {W : WX} {x : Str} {e : Expr} {es : List Expr} {p pos : Pos} {ms : List (M D)} {k j n : Nat} {m : Fn} {pn : Addr × Obj}
theorem d_callH (hot : L2H.Hot1 X.A pn) (hp : pn ∈ X.pn) (D : DefH X.prog X.w X.K X.mg X.base x k n m) (hr : L2H.RoomH j X.A) (hj : k ≤ j) (tk : L2N.Takes X W) (hg : Gl X x) (ha : PA X (e :: es) (tDA (XC X) W (M.args ms)))
    (hdb : (x == ("__debug__" : Str)) = false := by decide) (he : starEach (e :: es) X.env = (false, eval e X.env) :: starEach es X.env := by rfl) (hpl : (backTo pos (starEach es X.env)).any (·.1) = false := by rfl) (hxc : XC X = RCp X.K X.mg pn := by rfl) :
    PE X (.Call (.Name x p) (e :: es) [] pos) (tD (XC X) W (M.call m ms)) := by
  obtain ⟨len, f, fd, ps, F0, hm, hk, hb⟩ := D
  rw [hxc] at ha ⊢
  refine peImp (L2H.pe_callHp F0 (hr.mono hj) hot hp hg hm hk hb (E := WE W) (fun σ => L2N.passAt tk σ) ha hdb he hpl) fun σ H Q ⟨F, μ, s, r, q⟩ => ?_
  refine ⟨F, μ, s, r, q.split.imp fun ds μ1 s1 H1 x1 h1 vs hv => ?_⟩
  have r1 := x1.rep
  refine ⟨?_, _, μ1, s1.G, ds, r1.toCall, hv.toCall, ?_⟩
  · rw [hv.length]
    refine len ds s1.G fun z => ?_
    unfold Res M.fn at h1
    rw [z] at h1
    exact h1
  · unfold Res M.fn at h1
    unfold ResF
    cases em : m ds s1.G with
    | stuck => rw [em] at h1; exact h1
    | exc e G' =>
      rw [em] at h1
      intro cls dx μ' H' y hx
      exact h1 cls dx μ' H' (y.ofCall r1) (hx.mono fun a t => tab_call t)
    | ok d G' =>
      rw [em] at h1
      intro v μ' H' y hx
      exact h1 μ' H' (y.ofCall r1) v (.of (hx.mono fun a t => tab_call t))
end
/-! ### comprehensions over range in a suite -/
def tDIH (C : RC) (W : WX) (m : M (List D)) : TI := tDI C W m
section
variable {X : Cx} {W : WX} {tg e e2 : Expr} {p pos : Pos} {m m2 : M D}
theorem pihImp {X : Cx} {tg e : Expr} {w1 w2 : TI} (h : L2H.PIH X tg e w1) (i : ∀ σ H R, w2 σ H R → w1 σ H R) : L2H.PIH X tg e w2 := ⟨fun pins s σ H R I q => h.run pins s σ H R I (i σ H R q)⟩
theorem dih_range1 {a : Expr} (hg : Gl X "range") (hm : X.mg "range" = none) (ha : PA X [a] (tDA (XC X) W (M.args [m]))) (hs : starEach [a] X.env = [(false, eval a X.env)] := by rfl) : L2H.PIH X tg (.Call (.Name "range" p) [a] [] pos) (tDI (XC X) W (M.range1 [m])) := by
  refine pihImp (L2H.pi_range1H hg hm ha hs) fun σ H R ⟨F, μ, s, r, q⟩ => ⟨F, μ, s, r, q.split.imp fun ds μ1 s1 H1 x1 h1 vs hv => ?_⟩
  split at h1
  · split at h1
    · rename_i c
      cases hv with
      | cons h t =>
        cases t
        cases h.int_inv
        exact ⟨_, rfl, c.1, c.2, h1.pure x1.rep _ yields_rng⟩
    · exact h1.elim
  · exact h1.elim
end
section
variable {X : Cx} {W : WX} {elt tg iter cnd : Expr} {ifs : List Expr} {scope : Scope} {own : List (Str × Nat)} {pos : Pos} {mi : M (List D)} {t : Tgt} {mc : M Bool} {me : M D} {p : Addr × Obj}
theorem df_compH (h1 : L2H.Hot1 X.A p) (hp : p ∈ X.pn) (hN : X.N.Nodup) (hi : L2H.PIH X tg iter (tDI (XC X) W mi)) (ok : BlkOk X.N X.env.scope scope own) (hown : t.all = own.map (·.2))
    (hg : ∀ (s : Shared) (H : Hp) (Cc : Addr) (cl : List (Str × Addr)) (fp : List Addr), PG (L2H.blkH X p s H scope (compEnvC scope cl Cc X.env) fp) tg (gOf X.K t))
    (ht : ∀ (s : Shared) (H : Hp) (Cc : Addr) (cl : List (Str × Addr)) (fp : List Addr), PTs (L2H.blkH X p s H scope (compEnvC scope cl Cc X.env) fp) ifs (tDB (XC X) W0 mc))
    (he : ∀ (s : Shared) (H : Hp) (Cc : Addr) (cl : List (Str × Addr)) (fp : List Addr), PE (L2H.blkH X p s H scope (compEnvC scope cl Cc X.env) fp) elt (tD (XC X) W0 me)) (hs : ∀ x, foldedSetIterable iter X.env x = pure x := by intro _; rfl) :
    PE X (.ListComp elt [⟨tg, iter, ifs, 0⟩] scope pos) (tDF (XC X) W (M.comp (own.map (·.2)) mi t mc me)) := by
  exact peImp (L2H.pe_lcH h1 hp hN hi ok hg ht he hs) (tLc_of hown)
end
/-! ### a, b = (x, y) -/
def M.par (i j : Nat) (ms : List (M D)) : M Fl := do
  let ds ← M.args ms
  match ds with
  | [a, b] => M.seq (M.put i (.val a)) (M.put j (.val b))
  | _ => M.stuck
section
variable {X : Cx} {W : WX} {ms : List (M D)} {i j : Nat} {x y : Str} {a b : Expr} {px py pt pos pt2 : Pos} {kt k2 : Nat}
theorem par_of {σ : L2.St} {H : Hp} {E : Ends} (h : tDS (XC X) W (M.par i j ms) E σ H) : tPar i j (tDA (XC X) W (M.args ms)) E σ H := by
  obtain ⟨F, μ, s, r, q⟩ := h
  refine ⟨F, μ, s, r, q.splitE.imp fun ds μ1 s1 H1 x1 h1 vs hv => ?_⟩
  split at h1
  · rename_i d e
    cases hv with
    | cons h t =>
      cases t with
      | cons h2 t =>
        cases t
        obtain ⟨hi1, h3⟩ := resS_put h1.split
        have x2 := x1.rep.putVal hi1 h
        have h4 := h3 _ _ _ x2
        obtain ⟨hj1, h5⟩ := resS_put h4
        exact ⟨_, _, rfl, h5 _ _ _ (x2.rep.putVal hj1 (x2.at h2))⟩
  · exact (resS_stuck h1).elim
theorem ds_par (hc : X.calm = true) (hN : X.N.Nodup) (hi : X.N[i]? = some x) (hj : X.N[j]? = some y) (hij : i ≠ j)
    (hx : X.env.scope.names.lookup x = some .local) (hy : X.env.scope.names.lookup y = some .local) (ha : PA X [a, b] (tDA (XC X) W (M.args ms)))
    (hw : swappedStores [.Tuple [.Name x px, .Name y py] kt pt] (.Tuple [a, b] k2 pt2) X.env = pure (some [x, y]) := by rfl)
    (hs : swapsWithSole [.Tuple [.Name x px, .Name y py] kt pt] (.Tuple [a, b] k2 pt2) pos.line X.env = pure false := by rfl) :
    PS X (.Assign [.Tuple [.Name x px, .Name y py] kt pt] (.Tuple [a, b] k2 pt2) pos) (tDS (XC X) W (M.par i j ms)) :=
  psImp (ps_par hc hN hi hj hij hx hy ha hw hs) fun E σ H h => par_of h
theorem ds_parH {p : Addr × Obj} (h1 : L2H.Hot1 X.A p) (hp : p ∈ X.pn) (hN : X.N.Nodup) (hi : X.N[i]? = some x) (hj : X.N[j]? = some y) (hij : i ≠ j)
    (hx : X.env.scope.names.lookup x = some .local) (hy : X.env.scope.names.lookup y = some .local) (ha : PA X [a, b] (tDA (XC X) W (M.args ms)))
    (hw : swappedStores [.Tuple [.Name x px, .Name y py] kt pt] (.Tuple [a, b] k2 pt2) X.env = pure (some [x, y]) := by rfl)
    (hs : swapsWithSole [.Tuple [.Name x px, .Name y py] kt pt] (.Tuple [a, b] k2 pt2) pos.line X.env = pure false := by rfl) :
    PS X (.Assign [.Tuple [.Name x px, .Name y py] kt pt] (.Tuple [a, b] k2 pt2) pos) (tDS (XC X) W (M.par i j ms)) :=
  psImp (L2H.ps_parH ⟨p, h1, hp⟩ hN hi hj hij hx hy ha hw hs) fun E σ H h => par_of h
end
/-! ### no exception in a value -/
mutual
def D.noX : D → Bool
  | .tup l => noXL l
  | .lst l => noXL l
  | .dct _ _ l => noXL l
  | .exc _ _ _ => false
  | _ => true
def noXL : List D → Bool
  | [] => true
  | d :: ds => D.noX d && noXL ds
end
def MO.noX : MO → Bool
  | .lst l => noXL l
  | .dct _ _ l => noXL l
  | .ins _ _ l => noXL l
def Slot.noX : Slot → Bool
  | .no => true
  | .val d => d.noX
  | .own o => o.noX
def Sta.noX (s : Sta) : Bool := s.ρ.all Slot.noX && s.G.all MO.noX
def Fl.noX : Fl → Bool
  | .rt d => d.noX
  | _ => true
section
variable {K : PySem.W.Frag} {mg : Str → Option Value} {p : Option (Addr × Obj)} {T : Addr → Prop} {μ : List Addr} {H : Hp} {v : V} {d : D}
theorem At.pin (h : At ⟨K, mg, none⟩ T μ H v d) : At ⟨K, mg, p⟩ T μ H v d := by
  induction h with
  | non => exact .non
  | bl b => exact .bl b
  | int i => exact .int i
  | str x => exact .str x
  | tup q l c ih => exact .tup q l ih
  | lst q l c ih => exact .lst q l ih
  | dct n q l c ih => exact .dct n q l ih
  | exc0 g q => exact .exc0 g q
  | exc1 g q hd hn hl c ih => exact .exc1 g q hd hn hl ih
  | excP0 g p hc hd hf => cases p
  | excP1 g p hc hx hf hd hn hl c ih => cases p
  | ref q => exact .ref q
  | scr q => exact .scr q
theorem noXL_get : ∀ {ds : List D} {i : Nat} {d : D}, noXL ds = true → ds[i]? = some d → d.noX = true
  | [], _, _, _, e => by simp at e
  | d :: ds, 0, _, h, e => by
    simp [noXL] at h e
    subst e
    exact h.1
  | d :: ds, i + 1, _, h, e => by
    simp [noXL] at h e
    exact noXL_get h.2 e
theorem At.unpin (h : At ⟨K, mg, p⟩ T μ H v d) (n : d.noX = true) : At ⟨K, mg, none⟩ T μ H v d := by
  induction h with
  | non => exact .non
  | bl b => exact .bl b
  | int i => exact .int i
  | str x => exact .str x
  | tup q l c ih => exact .tup q l fun i v d e1 e2 => ih i v d e1 e2 (noXL_get n e2)
  | lst q l c ih => exact .lst q l fun i v d e1 e2 => ih i v d e1 e2 (noXL_get n e2)
  | dct m q l c ih => exact .dct m q l fun i v d e1 e2 => ih i v d e1 e2 (noXL_get n e2)
  | exc0 g q => cases n
  | exc1 g q hd hn hl c ih => cases n
  | excP0 g p hc hd hf => cases n
  | excP1 g p hc hx hf hd hn hl c ih => cases n
  | ref q => exact .ref q
  | scr q => exact .scr q
theorem AtL.pin : ∀ {vs : List V} {ds : List D}, AtL ⟨K, mg, none⟩ T μ H vs ds → AtL ⟨K, mg, p⟩ T μ H vs ds
  | _, _, .nil => .nil
  | _, _, .cons h t => .cons h.pin t.pin
theorem AtL.unpin : ∀ {vs : List V} {ds : List D}, AtL ⟨K, mg, p⟩ T μ H vs ds → noXL ds = true → AtL ⟨K, mg, none⟩ T μ H vs ds
  | _, _, .nil, _ => .nil
  | _, _, .cons h t, n => by
    simp [noXL] at n
    exact .cons (h.unpin n.1) (t.unpin n.2)
theorem RepO.pin {a : Addr} {o : MO} (h : RepO ⟨K, mg, none⟩ T μ H a o) : RepO ⟨K, mg, p⟩ T μ H a o := by
  cases o with
  | lst l => obtain ⟨vs, e, c⟩ := h; exact ⟨vs, e, c.pin⟩
  | dct t k l => obtain ⟨vs, e, c⟩ := h; exact ⟨vs, e, c.pin⟩
  | ins c k l => obtain ⟨A, dx, fs, e1, e2, e3, c⟩ := h; exact ⟨A, dx, fs, e1, e2, e3, c.pin⟩
theorem RepO.unpin {a : Addr} {o : MO} (h : RepO ⟨K, mg, p⟩ T μ H a o) (n : o.noX = true) : RepO ⟨K, mg, none⟩ T μ H a o := by
  cases o with
  | lst l => obtain ⟨vs, e, c⟩ := h; exact ⟨vs, e, c.unpin n⟩
  | dct t k l => obtain ⟨vs, e, c⟩ := h; exact ⟨vs, e, c.unpin n⟩
  | ins c k l => obtain ⟨A, dx, fs, e1, e2, e3, c⟩ := h; exact ⟨A, dx, fs, e1, e2, e3, c.unpin n⟩
variable {F : Addr → Prop} {s s' : Sta} {σ σ' : L2.St} {μ' : List Addr} {H' : Hp}
theorem Rep.pin (r : Rep ⟨K, mg, none⟩ F μ s σ H) : Rep ⟨K, mg, p⟩ F μ s σ H := by
  refine ⟨r.len, fun i sl e => ?_, r.inj, r.lenG, fun g o e => ?_, r.nd, r.sep, r.far⟩
  · have q := r.slots i sl e
    cases sl with
    | no => trivial
    | val d => obtain ⟨v, e1, e2⟩ := q; exact ⟨v, e1, e2.pin⟩
    | own o => obtain ⟨v, e1, e2⟩ := q; exact ⟨v, e1, e2.pin⟩
  · obtain ⟨a, e1, e2⟩ := r.objs g o e
    exact ⟨a, e1, e2.pin⟩
theorem Rep.unpin (r : Rep ⟨K, mg, p⟩ F μ s σ H) (n : s.noX = true) : Rep ⟨K, mg, none⟩ F μ s σ H := by
  unfold Sta.noX at n
  rw [Bool.and_eq_true] at n
  refine ⟨r.len, fun i sl e => ?_, r.inj, r.lenG, fun g o e => ?_, r.nd, r.sep, r.far⟩
  · have q := r.slots i sl e
    have n1 := List.all_eq_true.mp n.1 sl (List.mem_of_getElem? e)
    cases sl with
    | no => trivial
    | val d => obtain ⟨v, e1, e2⟩ := q; exact ⟨v, e1, e2.unpin n1⟩
    | own o => obtain ⟨v, e1, e2⟩ := q; exact ⟨v, e1, e2.unpin n1⟩
  · obtain ⟨a, e1, e2⟩ := r.objs g o e
    exact ⟨a, e1, e2.unpin (List.all_eq_true.mp n.2 o (List.mem_of_getElem? e))⟩
theorem Ext.unpin (x : Ext ⟨K, mg, p⟩ F μ s σ H μ' s' σ' H') (n : s'.noX = true) : Ext ⟨K, mg, none⟩ F μ s σ H μ' s' σ' H' := ⟨x.pre, x.keep, x.rep.unpin n, x.len⟩
end
/-! ### try: .. except C as e: .. -/
def M.tryAs (kc : Str → Option Bool) (i : Nat) (body suite : M Fl) : M Fl := fun s => match body s with
  | .exc (.exc c n d) s1 => match kc c with
    | some true => if i < s1.ρ.length then match suite { s1 with ρ := s1.ρ.set i (.val (.exc c n d)) } with
        | .ok f s2 => if (Sta.noX { s2 with ρ := s2.ρ.set i .no } && f.noX) && decide (s2.ρ.length = s1.ρ.length) then .ok f { s2 with ρ := s2.ρ.set i .no } else .stuck
        | _ => .stuck
      else .stuck
    | some false => .exc (.exc c n d) s1
    | none => .stuck
  | .exc _ _ => .stuck
  | o => o
section
variable {X : Cx} {x n : Str} {c : Value} {i : Nat} {body suite : List Stmt} {b₀ : Stmt} {np pos pos' : Pos} {W : WX} {mb ms : M Fl} {kc : Str → Option Bool}
theorem ds_tryAs (hc : X.calm = true) (hs : X.stack = X.env :: X.outer) (hf : X.env.frame = some X.env.locals) (hN : X.N.Nodup) (hi : X.N[i]? = some n) (hln : X.env.kindOf n = some .local) (hnm : Names X x c) (hk : ∀ c' b A, kc c' = some b → X.mg c' = some (.ref A) → PySem.W.exmOne X.K (.ref A) c = some b) (tk : L2N.Takes X W)
    (hb : ∀ (W' : WX) (pn : List (Addr × Obj)) (xe : Value → Shared → Prop), L2N.Takes (X.tr pn xe) W' → PassesOwn (model X.prog X.w) X.A X.env xe → PSs (X.tr pn xe) body (tDS (RC0 X.K X.mg) W' mb))
    (hsu : ∀ (a : Addr) (oe : Obj) (cls : Value) (d : Option Addr) (pn : List (Addr × Obj)), L2H.Hot1 (X.suite a ((a, oe) :: pn)).A (a, oe) → PSs (X.suite a ((a, oe) :: pn)) (b₀ :: suite) (tDS (RCp X.K X.mg (a, oe)) W0 ms)) :
    PS X (.Try body [.ExceptHandler (some (.Name x np)) (some n) (b₀ :: suite) pos'] [] [] pos) (tDS (XC X) W (M.tryAs kc i mb ms)) := by
  have exc : XC X = RC0 X.K X.mg := by unfold XC pinOf; rw [hc]
  rw [exc]
  refine psImp (L2N.ps_try_as (ts := fun a cls d E σ H => ∀ oe : Obj, L2N.Zn cls d oe → (∃ vs, oe.data = .fields vs) → tDS (RCp X.K X.mg (a, oe)) W0 ms E σ H) hs hf hN hi hln hnm tk hb
    fun a oe cls d pn hz hd => pssImp (hsu a oe cls d pn ⟨rfl, hd.elim fun vs e => ⟨vs, e, hz.2.2 vs e⟩⟩) fun E σ H h => h oe hz hd) fun E σ H ⟨F, μ, s, r, q⟩ => ⟨F, μ, s, r, ?_⟩
  unfold ResS M.tryAs at q
  unfold ResS
  cases em : mb s with
  | stuck => rw [em] at q; exact q.elim
  | ok f s1 => rw [em] at q; exact q
  | exc e s1 =>
    rw [em] at q
    cases e with
    | exc c' n' d =>
      simp only at q
      intro cls dx μ1 σ1 H1 x1 hx
      obtain ⟨A, gA, rfl, hx⟩ := hx
      cases ek : kc c' with
      | none => rw [ek] at q; exact q.elim
      | some b =>
        rw [ek] at q
        refine ⟨b, hk c' b A ek gA, fun hb a na oe hz hd => ?_, fun hb => ?_⟩
        · subst hb
          simp only at q
          by_cases hi1 : i < s1.ρ.length
          · rw [if_pos hi1] at q
            have hσ : i < σ1.length := by rw [← x1.rep.len]; exact hi1
            have x2 := x1.rep.putNo (w := some (.ref a)) hi1
            have r2 : Rep (RCp X.K X.mg (a, oe)) F μ1 { s1 with ρ := s1.ρ.set i .no } (σ1.set i (some (.ref a))) H1 := x2.rep.pin
            have hi2 : i < (s1.ρ.set i Slot.no).length := by simpa using hi1
            have tab2 : ∀ b, Tab F μ1 { s1 with ρ := s1.ρ.set i .no } (σ1.set i (some (.ref a))) b → Tab F μ1 s1 σ1 b := fun b t => by
              rcases t with t | t | ⟨j, oj, e1, e2⟩
              · exact .inl t
              · exact .inr (.inl t)
              · by_cases hj : j = i
                · subst hj
                  have e1 : (s1.ρ.set j Slot.no)[j]? = some (.own oj) := e1
                  rw [List.getElem?_set_self hi1] at e1
                  cases e1
                · have e1 : (s1.ρ.set i Slot.no)[j]? = some (.own oj) := e1
                  rw [List.getElem?_set_ne (Ne.symm hj)] at e1 e2
                  exact .inr (.inr ⟨j, oj, e1, e2⟩)
            have atE : At (RCp X.K X.mg (a, oe)) (Tab F μ1 { s1 with ρ := s1.ρ.set i .no } (σ1.set i (some (.ref a)))) μ1 H1 (.ref a) (.exc c' n' d) := by
              rcases hx with ⟨rfl, rfl, rfl⟩ | ⟨hn, qd, fs, v, rfl, hq, nT, hl, hv⟩
              · exact .excP0 gA rfl hz.1 hz.2.1 hd
              · exact .excP1 gA rfl hz.1 hz.2.1 hd ⟨fun t => nT (tab2 _ t), hq⟩ hn hl (hv.pin.mono tab2)
            have x3 : Ext (RCp X.K X.mg (a, oe)) F μ1 { s1 with ρ := s1.ρ.set i .no } (σ1.set i (some (.ref a))) H1 μ1 { s1 with ρ := s1.ρ.set i (.val (.exc c' n' d)) } (σ1.set i (some (.ref a))) H1 := by
              have z := r2.putVal hi2 atE
              simp only [List.set_set] at z
              exact z
            refine ⟨F, μ1, _, x3.rep, ?_⟩
            unfold ResS
            cases es : ms { s1 with ρ := s1.ρ.set i (.val (.exc c' n' d)) } with
            | stuck => rw [es] at q; exact q.elim
            | exc e2 s2 => rw [es] at q; exact q.elim
            | ok f s2 =>
              rw [es] at q
              simp only at q
              intro μ4 σ4 H4 x4
              by_cases hno : ((Sta.noX { s2 with ρ := s2.ρ.set i .no } && f.noX) && decide (s2.ρ.length = s1.ρ.length)) = true
              · rw [if_pos hno] at q
                rw [Bool.and_eq_true, Bool.and_eq_true, decide_eq_true_eq] at hno
                obtain ⟨⟨hno1, hno2⟩, hlen⟩ := hno
                have x5 := x4.rep.putNo (w := none) (i := i) (by rw [hlen]; exact hi1)
                have x6 := (x1.trans x2).trans (((x3.trans x4).trans x5).unpin hno1)
                have fin := q μ4 _ H4 x6
                cases f with
                | nx => exact fin
                | bk => exact fin
                | ct => exact fin
                | rt d2 =>
                  intro v hv
                  exact fin v ((x5.at hv).unpin hno2)
              · rw [if_neg hno] at q
                exact q.elim
          · rw [if_neg hi1] at q
            exact q.elim
        · subst hb
          simp only at q
          exact q (.ref A) dx μ1 σ1 H1 x1 ⟨A, gA, rfl, hx⟩
    | _ => exact q.elim
end
end Ms
/-! Ms21: dict displays, get; insert, index. -/
namespace Ms
open PySem PySem.Spec PyProof.Rows L2
/-! ### {"a": x, ..} -/
def M.dispS (ks : List Str) (ms : List (M D)) : M D := do
  let ds ← M.calm (M.args ms)
  if ds.length = ks.length ∧ ks.length ≤ 15 ∧ ks.Nodup then pure (.dct 0 (ks.map .str) ds) else M.stuck
inductive PDisp (X : Cx) (W : WX) : List (Option Expr) → List Expr → List Str → List (M D) → Prop
  | nil : PDisp X W [] [] [] []
  | cons {k : Str} {j : Nat} {kp : Pos} {e : Expr} {m : M D} {keys : List (Option Expr)} {es : List Expr} {ks : List Str} {ms : List (M D)} (h : PE X e (tD (XC X) W m)) (r : PDisp X W keys es ks ms) : PDisp X W (some (.Constant (.str k) j kp) :: keys) (e :: es) (k :: ks) (m :: ms)
section
variable {X : Cx} {W : WX} {keys : List (Option Expr)} {es : List Expr} {ks : List Str} {ms : List (M D)} {pos : Pos}
def trsOf (C : RC) (W : WX) : List Str → List (M D) → List (TE × TE)
  | k :: ks, m :: ms => (tC (.str k), tD C W m) :: trsOf C W ks ms
  | _, _ => []
theorem PDisp.pps : ∀ {keys : List (Option Expr)} {es : List Expr} {ks : List Str} {ms : List (M D)}, PDisp X W keys es ks ms → PPs X pos keys es (trsOf (XC X) W ks ms)
  | _, _, _, _, .nil => pps_nil
  | _, _, _, _, .cons h r => pps_cons pe_str h r.pps
theorem PDisp.len : ∀ {keys : List (Option Expr)} {es : List Expr} {ks : List Str} {ms : List (M D)}, PDisp X W keys es ks ms → keys.all (·.isSome) = true ∧ keys.length = es.length ∧ keys.length = ks.length ∧ ms.length = ks.length
  | _, _, _, _, .nil => ⟨rfl, rfl, rfl, rfl⟩
  | _, _, _, _, .cons h r => by
    obtain ⟨a, b, c, d⟩ := r.len
    exact ⟨by rw [List.all_cons, a]; rfl, congrArg (· + 1) b, congrArg (· + 1) c, congrArg (· + 1) d⟩
theorem pairs_of {C : RC} {F : Addr → Prop} {σ : L2.St} {Q : List (V × V) → Hp → Prop} : ∀ {ks : List Str} {ms : List (M D)} {μ : List Addr} {s : Sta} {H : Hp}, ms.length = ks.length → Rep C F μ s σ H →
    Res C W F μ s σ H (M.args ms) (fun ds μ' s' H' => ∀ vs, AtL C (Tab F μ' s' σ) μ' H' vs ds → Q (ks.zipWith (fun k v => (V.str k, v)) vs) H') → tPairs (trsOf C W ks ms) σ H Q
  | [], [], μ, s, H, _, r, q => q.pure r [] .nil
  | k :: ks, m :: ms, μ, s, H, hl, r, q => ⟨F, μ, s, r, q.split.imp fun d μ1 s1 H1 x1 h1 v hv => by
    obtain ⟨n, h1⟩ := res_out x1.rep h1
    refine pairs_of (ks := ks) (ms := ms) (by simpa using hl) x1.rep (h1.split.imp fun ds μ2 s2 H2 x2 h2 vs hvs => ?_)
    exact h2.pure x2.rep (v :: vs) (.cons (x2.at (hv.at n)) hvs)⟩
  | [], _ :: _, _, _, _, hl, _, _ => by simp at hl
  | _ :: _, [], _, _, _, hl, _, _ => by simp at hl
theorem merge_nd : ∀ (kvs acc : List (Key × V)), (acc.map (·.1) ++ kvs.map (·.1)).Nodup → mergeK acc kvs = acc ++ kvs
  | [], acc, _ => by simp [mergeK]
  | p :: kvs, acc, h => by
    have hn : ∀ q ∈ acc, q.1 ≠ p.1 := fun q hq z => by
      rw [List.map_cons, List.nodup_append] at h
      exact h.2.2 q.1 (List.mem_map_of_mem hq) p.1 List.mem_cons_self z
    have hp : putK acc p.1 p.2 = acc ++ [p] := by
      unfold putK
      rw [if_neg]
      rw [List.any_eq_true]
      rintro ⟨q, hq, z⟩
      exact hn q hq (of_decide_eq_true z)
    show mergeK (putK acc p.1 p.2) kvs = _
    rw [hp, merge_nd kvs (acc ++ [p]) (by simpa using h)]
    simp
theorem map_keys (ks : List Str) (vs : List V) (l : vs.length = ks.length) : (ks.zipWith (fun k v => ((Sum.inr k : Key), v)) vs).map (·.1) = ks.map Sum.inr := by
  induction ks generalizing vs with
  | nil => rfl
  | cons k ks ih =>
    cases vs with
    | nil => simp at l
    | cons v vs => rw [List.zipWith_cons_cons, List.map_cons, List.map_cons, ih vs (by simpa using l)]
theorem map_vals (ks : List Str) (vs : List V) (l : vs.length = ks.length) : (ks.zipWith (fun k v => ((Sum.inr k : Key), v)) vs).map (·.2) = vs := by
  induction ks generalizing vs with
  | nil => cases vs with
    | nil => rfl
    | cons v vs => simp at l
  | cons k ks ih =>
    cases vs with
    | nil => simp at l
    | cons v vs => rw [List.zipWith_cons_cons, List.map_cons, ih vs (by simpa using l)]
theorem d_dispS (h : PDisp X W0 keys es ks ms) (h0 : keys ≠ []) (h15 : keys.length ≤ 15) : PE X (.Dict keys es pos) (tD (XC X) W (M.dispS ks ms)) := by
  obtain ⟨l1, l2, l3, l4⟩ := h.len
  refine peImp (pe_disp h.pps l1 l2 h0 h15) fun σ H Q ⟨F, μ, s, r, q⟩ p hp => ?_
  have r1 := r.forbid (o := .dK []) hp
  have nF : ¬ F p := fun z => (r.far p z).1 hp
  have nm : ¬ Mine μ s σ p := fun m => r.free hp (.inr m)
  have q := q.split
  refine pairs_of l4 r1 ?_
  cases em : M.args ms s with
  | stuck =>
    unfold Res M.calm at q
    rw [em] at q
    exact q.elim
  | exc e s1 =>
    unfold Res M.calm at q
    rw [em] at q
    exact q.elim
  | ok ds s1 =>
    have em2 : M.calm (M.args ms) s = .ok ds s1 := by unfold M.calm; rw [em]
    refine Res.mkOk em fun μ5 H5 x5 vs hvs => ?_
    obtain ⟨z1, z2, z3⟩ := block_step (σ := σ) (σ2 := σ) (s := s) (vs := []) hp nF (fun _ _ e => e) nm x5 rfl
    have z1 : Ext (XC X) F μ s σ H μ5 s1 σ (L2.del H5 p) := z1
    have q2 := q.ok em2 μ5 _ z1
    by_cases hc : ds.length = ks.length ∧ ks.length ≤ 15 ∧ ks.Nodup
    · rw [if_pos hc] at q2
      have lv : vs.length = ks.length := hvs.length.trans hc.1
      refine ⟨z2, ks.zipWith (fun k v => ((Sum.inr k : Key), v)) vs, ?_, by rw [List.length_zipWith]; omega, ?_⟩
      · rw [List.map_zipWith]
        rfl
      · have hz : L2.del H5 p p = none := L2.del_same
        have nd : (([] : List (Key × V)).map (·.1) ++ (ks.zipWith (fun k v => ((Sum.inr k : Key), v)) vs).map (·.1)).Nodup := by
          rw [map_keys ks vs lv, List.map_nil, List.nil_append]
          exact List.pairwise_map.mpr (hc.2.2.imp fun h z => h (by cases z; rfl))
        rw [merge_nd _ _ nd, List.nil_append, ← upd_del (H := H5)]
        have x6 := z1.rep.ext1 (o := .dK (ks.zipWith (fun k v => ((Sum.inr k : Key), v)) vs)) hz
        have hv2 : AtL (XC X) (Tab F μ5 s1 σ) μ5 (L2.del H5 p) vs ds := .of hvs.length fun i v d e1 e2 => z3 (hvs.get e1 e2)
        refine q2 μ5 _ x6 (.ref p) (.of (.dct (z1.rep.free hz) (.inl ⟨rfl, _, upd_same, ?_, (map_vals ks vs lv).symm⟩) hv2.length fun i v d => (x6.atL hv2).get))
        have e3 := map_keys ks vs lv
        have e4 := congrArg (List.map keyD) e3
        rw [List.map_map, List.map_map] at e4
        exact e4.symm
    · rw [if_neg hc] at q2
      exact q2.elim
end
/-! ### d.get(k), d.get(k, x) -/
def isDct (s : Sta) (d : D) : Bool := (d.dct? s).isSome
def M.isD (o : D) : M D := M.look fun s => (o.dct? s).map fun _ => o
def M.get1 (mo mk : M D) : M D := do
  let o ← mo
  let o ← M.isD o
  let k ← mk
  let k ← M.out k
  M.look fun s => (dLook s o k).map fun z => z.getD .non
def M.get2 (mo mk md : M D) : M D := do
  let o ← mo
  let o ← M.isD o
  let k ← mk
  let k ← M.out k
  let d ← md
  let d ← M.out d
  M.look fun s => (dLook s o k).map fun z => z.getD d
section
variable {X : Cx} {W : WX} {o e f : Expr} {apos cpos : Pos} {mo mk md : M D}
theorem isD_of {C : RC} {F : Addr → Prop} {μ : List Addr} {s : Sta} {σ : L2.St} {H : Hp} {v : V} {d : D} {t : Nat} {ks ds : List D} (r : Rep C F μ s σ H) (h : AtX C F μ s σ H v d) (e : d.dct? s = some (t, ks, ds)) : ∃ a, v = .ref a ∧ IsD H a := by
  obtain ⟨a, vs, rfl, q, _⟩ := r.dct? h e
  rcases q with ⟨_, kvs, q, _⟩ | ⟨_, kvs, q, _⟩
  · exact ⟨a, rfl, .inl ⟨kvs, .inl q⟩⟩
  · exact ⟨a, rfl, .inr ⟨kvs, .inl q⟩⟩
theorem getD_at {C : RC} {T : Addr → Prop} {μ : List Addr} {H : Hp} {ov : Option V} {oo : Option D} {v : V} {d : D} (h : AtO C T μ H ov oo) (hd : At C T μ H v d) : At C T μ H (ov.getD v) (oo.getD d) := by
  cases ov <;> cases oo <;> first | exact h | exact hd | exact h.elim
theorem d_get1 (hr : Rm X) (ho : PE X o (tD (XC X) W mo)) (he : PE X e (tD (XC X) W mk)) (m : M1 X o "get" apos e cpos := by exact ⟨rfl, rfl, rfl, rfl⟩) : PE X (.Call (.Attribute o "get" apos) [e] [] cpos) (tD (XC X) W (M.get1 mo mk)) := by
  refine peImp (pe_dget1 hr.u1 ho he m) fun σ H Q ⟨F, μ, s, r, q⟩ => ⟨F, μ, s, r, q.split.imp fun d μ1 s1 H1 x1 h1 v hv => ?_⟩
  obtain ⟨z, ez, k⟩ := res_look h1.split
  obtain ⟨⟨t, ks, ds⟩, ed, rfl⟩ := Option.map_eq_some_iff.mp ez
  obtain ⟨a, rfl, hd⟩ := isD_of x1.rep hv ed
  have h2 := k H1 (.refl x1.rep)
  refine ⟨a, rfl, hd, F, μ1, s1, x1.rep, h2.split.imp fun y μ2 s2 H2 x2 h2 yv hy => ?_⟩
  obtain ⟨ny, h2⟩ := res_out x2.rep h2
  obtain ⟨z, ez, k⟩ := res_look h2
  obtain ⟨oo, el, rfl⟩ := Option.map_eq_some_iff.mp ez
  obtain ⟨b, ov, e1, g, q⟩ := x2.rep.dLook (x2.atX hv) hy el
  cases e1
  exact ⟨ov, g, k _ (.refl x2.rep) _ (.of (getD_at q .non))⟩
theorem d_get2 (hr : Rm X) (ho : PE X o (tD (XC X) W mo)) (he : PE X e (tD (XC X) W mk)) (hf : PE X f (tD (XC X) W md)) (m : M2 X o "get" apos e f cpos := by exact ⟨rfl, rfl, rfl, rfl⟩) : PE X (.Call (.Attribute o "get" apos) [e, f] [] cpos) (tD (XC X) W (M.get2 mo mk md)) := by
  refine peImp (pe_dget2 hr.u1 ho he hf m) fun σ H Q ⟨F, μ, s, r, q⟩ => ⟨F, μ, s, r, q.split.imp fun d μ1 s1 H1 x1 h1 v hv => ?_⟩
  obtain ⟨z, ez, k⟩ := res_look h1.split
  obtain ⟨⟨t, ks, ds⟩, ed, rfl⟩ := Option.map_eq_some_iff.mp ez
  obtain ⟨a, rfl, hd⟩ := isD_of x1.rep hv ed
  have h2 := k H1 (.refl x1.rep)
  refine ⟨a, rfl, hd, F, μ1, s1, x1.rep, h2.split.imp fun y μ2 s2 H2 x2 h2 yv hy => ?_⟩
  obtain ⟨ny, h2⟩ := res_out x2.rep h2
  refine ⟨F, μ2, s2, x2.rep, h2.split.imp fun w μ3 s3 H3 x3 h3 wv hw => ?_⟩
  obtain ⟨nw, h3⟩ := res_out x3.rep h3
  obtain ⟨z, ez, k⟩ := res_look h3
  obtain ⟨oo, el, rfl⟩ := Option.map_eq_some_iff.mp ez
  obtain ⟨b, ov, e1, g, q⟩ := x3.rep.dLook (x3.atX (x2.atX hv)) (x3.atX hy) el
  cases e1
  exact ⟨ov, g, k _ (.refl x3.rep) _ (.of (getD_at q (hw.at nw)))⟩
end
/-! ### l.insert(i, x), l.index(x) -/
def insF (i v : D) : MO → Option MO
  | .lst l => match i with
    | .int k => if lenOk (l.length + 1) && decide (0 ≤ k) && decide (k < 2 ^ 63) then some (.lst (l.take k.toNat ++ [v] ++ l.drop k.toNat)) else none
    | _ => none
  | _ => none
def M.insert (mo mi mv : M D) : M D := do
  let o ← mo
  let o ← M.isL o
  let i ← mi
  let i ← M.out i
  let v ← mv
  let v ← M.out v
  M.mut o (insF i v)
def idxOf : List PyData → PyData → Nat → Option Nat
  | [], _, _ => none
  | z :: zs, d, j => if PyData.eqv z d then some j else idxOf zs d (j + 1)
theorem idxOf_ok {d : PyData} : ∀ {zs : List PyData} {j n : Nat}, idxOf zs d j = some n → ∃ (m : Nat) (z : PyData), n = j + m ∧ zs[m]? = some z ∧ PyData.eqv z d = true ∧ ∀ (k : Nat) (z' : PyData), k < m → zs[k]? = some z' → PyData.eqv z' d = false
  | [], _, _, h => by cases h
  | z :: zs, j, n, h => by
    unfold idxOf at h
    split at h
    · cases h
      exact ⟨0, z, rfl, rfl, by assumption, fun k _ hk => absurd hk (by omega)⟩
    · rename_i hn
      obtain ⟨m, z1, e1, e2, e3, e4⟩ := idxOf_ok h
      refine ⟨m + 1, z1, by omega, by simpa using e2, e3, fun k z' hk e => ?_⟩
      cases k with
      | zero => simp at e; subst e; simpa using hn
      | succ k => exact e4 k z' (by omega) (by simpa using e)
def indexD (s : Sta) (o v : D) : Option D := match o.pyS s, v.pyS s with
  | some (.list ds), some d => if SeqAt.shaped (.list ds) && SeqAt.shaped d then (idxOf ds d 0).map fun n => .int (n : Nat) else none
  | _, _ => none
def M.index (mo mv : M D) : M D := do
  let o ← mo
  let o ← M.isL o
  let v ← mv
  M.look fun s => indexD s o v
section
variable {X : Cx} {W : WX} {a e b c o i : Expr} {es : List Expr} {p pos pos' apos : Pos} {m mo mi mv : M D}
theorem d_insert (ho : PE X o (tD (XC X) W mo)) (hi : PE X i (tD (XC X) W mi)) (hv : PE X e (tD (XC X) W mv)) (hbase : attributeBase o "insert" X.env (eval o X.env) = eval o X.env := by rfl)
    (hfew : ((backTo pos (starEach (i :: [e]) X.env)).all (fun x => !x.1) && (backToKw pos (keywordEach [] X.env)).all (fun x => x.1.isSome)
      && decide ((i :: [e]).length + ([] : List Keyword).length + (if ([] : List Keyword).isEmpty then 0 else 1) < 30)) = true := by rfl)
    (hline : (apos.endLine == pos.line) = true := by rfl) (hs : starEach (i :: [e]) X.env = (false, eval i X.env) :: starEach [e] X.env := by rfl) (hs2 : starEach (e :: []) X.env = (false, eval e X.env) :: starEach [] X.env := by rfl) (hplain : (backTo pos (starEach [e] X.env)).any (·.1) = false := by rfl) :
    PE X (.Call (.Attribute o "insert" apos) [i, e] [] pos) (tD (XC X) W (M.insert mo mi mv)) := by
  refine peImp (pe_bm PySem.F.plainAttrs_list PySem.F.slot_list_insert PySem.F.type_list_insert mt_insert ho (pa_cons hi (pa_cons hv pa_nil hs2) hs) hbase hfew hline hs hplain) fun σ H Q ⟨F, μ, s, r, q⟩ => ?_
  refine ⟨F, μ, s, r, q.split.imp fun o μ1 s1 H1 x1 h1 ov hov => ?_⟩
  obtain ⟨z, ez, k⟩ := res_look h1.split
  obtain ⟨l, el, rfl⟩ := Option.map_eq_some_iff.mp ez
  have h2 := k H1 (.refl x1.rep)
  obtain ⟨p, ws, rfl, hp, _⟩ := x1.rep.seqL hov el
  refine ⟨.inl ⟨rfl, _, .of hp⟩, F, μ1, s1, x1.rep, h2.split.imp fun i μ2 s2 H2 x2 h2 iv hiv => ?_⟩
  obtain ⟨ni, h2⟩ := res_out x2.rep h2
  refine ⟨F, μ2, s2, x2.rep, h2.split.imp fun v μ3 s3 H3 x3 h3 vv hvv => ?_⟩
  obtain ⟨nv, h3⟩ := res_out x3.rep h3
  obtain ⟨s4, em, k4⟩ := res_mut h3
  obtain ⟨a, mo1, mo2, ea, q1, ef, x4⟩ := x3.rep.mut (x3.atX (x2.atX hov)) em
  cases ea
  unfold insF at ef
  split at ef
  · rename_i l2
    split at ef
    · rename_i kk _ _
      split at ef
      · rename_i hl
        cases ef
        rw [Bool.and_eq_true, Bool.and_eq_true, decide_eq_true_eq, decide_eq_true_eq] at hl
        obtain ⟨⟨hl1, hl2⟩, hl3⟩ := hl
        obtain ⟨vs, e1, cl⟩ := q1
        cases at_int (T := F) (x3.atX hiv)
        have y := x4 (.lst (vs.take kk.toNat ++ [vv] ++ vs.drop kk.toNat)) fun kp => by
          have c2 := cl.keep kp (List.prefix_refl _)
          exact ⟨_, upd_same, ((c2.take _).append (.cons ((hvv.at nv).keep kp (List.prefix_refl _)) .nil)).append (c2.drop _)⟩
        have hz := lenOk_line hl1
        exact ⟨p, vs, kk, vv, rfl, rfl, e1, by rw [cl.length]; omega, hl2, hl3, k4 _ _ y _ (.of .non)⟩
      · cases ef
    · cases ef
  · cases ef
theorem d_index (hr : Rm X) (ho : PE X o (tD (XC X) W mo)) (hv : PE X e (tD (XC X) W mv)) (hbase : attributeBase o "index" X.env (eval o X.env) = eval o X.env := by rfl)
    (hfew : ((backTo pos (starEach (e :: []) X.env)).all (fun x => !x.1) && (backToKw pos (keywordEach [] X.env)).all (fun x => x.1.isSome)
      && decide ((e :: []).length + ([] : List Keyword).length + (if ([] : List Keyword).isEmpty then 0 else 1) < 30)) = true := by rfl)
    (hline : (apos.endLine == pos.line) = true := by rfl) (hs : starEach (e :: []) X.env = (false, eval e X.env) :: starEach [] X.env := by rfl) (hplain : (backTo pos (starEach [] X.env)).any (·.1) = false := by rfl) :
    PE X (.Call (.Attribute o "index" apos) [e] [] pos) (tD (XC X) W (M.index mo mv)) := by
  refine peImp (pe_bm PySem.F.plainAttrs_list PySem.F.slot_list_index PySem.F.type_list_index (mt_indexD hr.u65) ho (pa_cons hv pa_nil hs) hbase hfew hline hs hplain) fun σ H Q ⟨F, μ, s, r, q⟩ => ?_
  refine ⟨F, μ, s, r, q.split.imp fun o μ1 s1 H1 x1 h1 ov hov => ?_⟩
  obtain ⟨z, ez, k⟩ := res_look h1.split
  obtain ⟨l, el, rfl⟩ := Option.map_eq_some_iff.mp ez
  have h2 := k H1 (.refl x1.rep)
  obtain ⟨p, ws, rfl, hp, _⟩ := x1.rep.seqL hov el
  refine ⟨.inl ⟨rfl, _, .of hp⟩, F, μ1, s1, x1.rep, h2.split.imp fun v μ2 s2 H2 x2 h2 vv hvv => ?_⟩
  obtain ⟨z, ez, k2⟩ := res_look h2
  unfold indexD at ez
  split at ez
  · rename_i ds d e1 e2
    split at ez
    · rename_i hs
      rw [Bool.and_eq_true] at hs
      obtain ⟨n, en, rfl⟩ := Option.map_eq_some_iff.mp ez
      obtain ⟨m, z, rfl, e3, e4, e5⟩ := idxOf_ok en
      rw [Nat.zero_add] at k2
      exact ⟨p, vv, d, ds, m, z, rfl, rfl, x2.rep.pyS (x2.atX hov) e1, x2.rep.pyS hvv e2, hs.1, hs.2, e3, e4, e5, k2 _ (.refl x2.rep) _ (.of (.int _))⟩
    · cases ez
  · cases ez
end
end Ms
/-! Ms22: a comprehension over an own list that stays own. -/
namespace Ms
open PySem PySem.Spec PyProof.Rows L2
section
variable {C : RC} {F : Addr → Prop} {μ μ' : List Addr} {s s' : Sta} {σ : L2.St} {H H' : Hp} {i : Nat} {a : Addr} {o : MO}
theorem own_set_no {ρ : List Slot} {b : Addr} (h : OwnAt (ρ.set i .no) σ b) : OwnAt ρ σ b ∧ ∃ j oj, j ≠ i ∧ ρ[j]? = some (.own oj) ∧ σ[j]? = some (some (.ref b)) := by
  obtain ⟨j, oj, e1, e2⟩ := h
  have nj : j ≠ i := fun z => by
    subst z
    by_cases hj : j < ρ.length
    · rw [List.getElem?_set_self hj] at e1
      cases e1
    · rw [List.set_eq_of_length_le (by omega)] at e1
      exact hj (List.getElem?_eq_some_iff.mp e1).1
  rw [List.getElem?_set_ne (Ne.symm nj)] at e1
  exact ⟨⟨j, oj, e1, e2⟩, j, oj, nj, e1, e2⟩
theorem tab_lend (r : Rep C F μ s σ H) (e : s.ρ[i]? = some (.own o)) (ea : σ[i]? = some (some (.ref a))) : Tab (Also F a) μ { s with ρ := s.ρ.set i .no } σ = Tab F μ s σ := by
  funext b
  refine propext ⟨fun t => ?_, fun t => ?_⟩
  · rcases t with (t | t) | t | t
    · exact .inl t
    · subst t
      exact .inr (.inr ⟨i, o, e, ea⟩)
    · exact .inr (.inl t)
    · exact .inr (.inr (own_set_no t).1)
  · rcases t with t | t | ⟨j, oj, e1, e2⟩
    · exact .inl (.inl t)
    · exact .inr (.inl t)
    · by_cases hj : j = i
      · subst hj
        rw [ea] at e2
        cases e2
        exact .inl (.inr rfl)
      · exact .inr (.inr ⟨j, oj, by show (s.ρ.set i Slot.no)[j]? = _; rw [List.getElem?_set_ne (Ne.symm hj)]; exact e1, e2⟩)
/-- what slot i owns is another's for a while -/
theorem Rep.lend (r : Rep C F μ s σ H) (e : s.ρ[i]? = some (.own o)) (ea : σ[i]? = some (some (.ref a))) : Rep C (Also F a) μ { s with ρ := s.ρ.set i .no } σ H := by
  have te := tab_lend r e ea
  have back : ∀ {j : Nat} {sl : Slot}, (s.ρ.set i Slot.no)[j]? = some sl → sl = .no ∨ (j ≠ i ∧ s.ρ[j]? = some sl) := fun {j sl} q => by
    by_cases hj : j = i
    · subst hj
      rw [List.getElem?_set_self (lt_of_get e)] at q
      cases q
      exact .inl rfl
    · rw [List.getElem?_set_ne (Ne.symm hj)] at q
      exact .inr ⟨hj, q⟩
  refine ⟨by simpa using r.len, fun j sl ej => ?_, fun j k oj ok b e1 e2 e3 e4 => ?_, r.lenG, fun g ob eg => ?_, r.nd, fun b hb t => r.sep b hb (own_set_no t).1, fun b t => ?_⟩
  · rw [te]
    rcases back ej with rfl | ⟨_, q⟩
    · trivial
    · exact r.slots j sl q
  · rcases back e1 with z | ⟨_, q1⟩
    · cases z
    · rcases back e2 with z | ⟨_, q2⟩
      · cases z
      · exact r.inj j k oj ok b q1 q2 e3 e4
  · rw [te]
    exact r.objs g ob eg
  · rcases t with t | t
    · exact ⟨(r.far b t).1, fun m => (r.far b t).2 (m.imp id fun q => (own_set_no q).1)⟩
    · subst t
      refine ⟨r.tabSome (.inr (.inr ⟨i, o, e, ea⟩)), fun m => ?_⟩
      rcases m with m | m
      · exact r.sep b m ⟨i, o, e, ea⟩
      · obtain ⟨_, j, oj, nj, e1, e2⟩ := own_set_no m
        exact nj (r.inj j i oj o b e1 e e2 ea)
theorem own_back (e : s'.ρ[i]? = some .no) (ea : σ[i]? = some (some (.ref a))) {b : Addr} : OwnAt (s'.ρ.set i (.own o)) σ b ↔ OwnAt s'.ρ σ b ∨ b = a := by
  have hi := lt_of_get e
  constructor
  · rintro ⟨j, oj, e1, e2⟩
    by_cases hj : j = i
    · subst hj
      rw [ea] at e2
      cases e2
      exact .inr rfl
    · rw [List.getElem?_set_ne (Ne.symm hj)] at e1
      exact .inl ⟨j, oj, e1, e2⟩
  · rintro (⟨j, oj, e1, e2⟩ | rfl)
    · have hj : j ≠ i := fun z => by subst z; rw [e] at e1; cases e1
      exact ⟨j, oj, by rw [List.getElem?_set_ne (Ne.symm hj)]; exact e1, e2⟩
    · exact ⟨i, o, List.getElem?_set_self hi, ea⟩
theorem tab_back (e : s'.ρ[i]? = some .no) (ea : σ[i]? = some (some (.ref a))) : Tab F μ' { s' with ρ := s'.ρ.set i (.own o) } σ = Tab (Also F a) μ' s' σ := by
  funext b
  have hb := own_back (o := o) (b := b) e ea
  refine propext ⟨fun t => ?_, fun t => ?_⟩
  · rcases t with t | t | t
    · exact .inl (.inl t)
    · exact .inr (.inl t)
    · rcases hb.mp t with t | t
      · exact .inr (.inr t)
      · exact .inl (.inr t)
  · rcases t with (t | t) | t | t
    · exact .inl t
    · exact .inr (.inr (hb.mpr (.inr t)))
    · exact .inr (.inl t)
    · exact .inr (.inr (hb.mpr (.inl t)))
/-- .. and its own again -/
theorem Ext.back (r : Rep C F μ s σ H) (e : s.ρ[i]? = some (.own o)) (ea : σ[i]? = some (some (.ref a))) (x : Ext C (Also F a) μ { s with ρ := s.ρ.set i .no } σ H μ' s' σ H') (e' : s'.ρ[i]? = some .no) :
    Ext C F μ s σ H μ' { s' with ρ := s'.ρ.set i (.own o) } σ H' := by
  have te := tab_lend r e ea
  have tb : Tab F μ' { s' with ρ := s'.ρ.set i (.own o) } σ = Tab (Also F a) μ' s' σ := tab_back e' ea
  have mineA : Mine μ s σ a := .inr ⟨i, o, e, ea⟩
  have lm : ∀ {b : Addr}, Mine μ { s with ρ := s.ρ.set i .no } σ b → Mine μ s σ b := fun {b} m => m.imp id fun q => (own_set_no q).1
  have keepF : ∀ b u, H b = some u → ¬ Mine μ { s with ρ := s.ρ.set i .no } σ b → H' b = some u := x.keep.stay
  have kt : Keep (Tab (Also F a) μ { s with ρ := s.ρ.set i .no } σ) (Tab (Also F a) μ' s' σ) H H' := x.keep.tab
  have nMa : ¬ Mine μ { s with ρ := s.ρ.set i .no } σ a := ((r.lend e ea).far a (.inr rfl)).2
  have nMa' : ¬ Mine μ' s' σ a := (x.rep.far a (.inr rfl)).2
  refine ⟨x.pre, ⟨fun b u q n => keepF b u q fun m => n (lm m), fun b t => ?_⟩, ⟨by simpa using x.rep.len, fun j sl ej => ?_, fun j k oj ok b e1 e2 e3 e4 => ?_, x.rep.lenG, fun g ob eg => ?_, x.rep.nd, fun b hb t => ?_, fun b t => ⟨(x.rep.far b (.inl t)).1, fun m => ?_⟩⟩, rfl⟩
  · rcases t with t | t
    · exact (x.keep.new b (.inl t)).imp lm id
    · rcases (own_back (o := o) e' ea).mp t with t | t
      · exact (x.keep.new b (.inr t)).imp lm id
      · exact .inl (by rw [t]; exact mineA)
  · rw [tb]
    by_cases hj : j = i
    · subst hj
      have ej : (s'.ρ.set j (Slot.own o))[j]? = some sl := ej
      rw [List.getElem?_set_self (lt_of_get e')] at ej
      cases ej
      obtain ⟨a', ea', q⟩ := r.slots j _ e
      rw [ea] at ea'
      cases ea'
      refine ⟨a, ea, ?_⟩
      rw [← te] at q
      have g : ∀ u, H a = some u → H' a = some u := fun u hu => keepF a u hu nMa
      cases o with
      | lst l => obtain ⟨vs, q1, c⟩ := q; exact ⟨vs, g _ q1, c.keep kt x.pre⟩
      | dct t k l => obtain ⟨vs, q1, c⟩ := q; exact ⟨vs, q1.keep g, c.keep kt x.pre⟩
      | ins c k l => obtain ⟨A, dx, fs, q1, q2, q3, c⟩ := q; exact ⟨A, dx, fs, q1, g _ q2, q3, c.keep kt x.pre⟩
    · have ej : (s'.ρ.set i (Slot.own o))[j]? = some sl := ej
      rw [List.getElem?_set_ne (Ne.symm hj)] at ej
      exact x.rep.slots j sl ej
  · have mem : ∀ {j : Nat} {oj : MO} {b : Addr}, (s'.ρ.set i (Slot.own o))[j]? = some (.own oj) → σ[j]? = some (some (.ref b)) → (j = i ∧ b = a) ∨ (j ≠ i ∧ s'.ρ[j]? = some (.own oj)) := fun {j oj b} q1 q2 => by
      by_cases hj : j = i
      · subst hj
        rw [ea] at q2
        cases q2
        exact .inl ⟨rfl, rfl⟩
      · rw [List.getElem?_set_ne (Ne.symm hj)] at q1
        exact .inr ⟨hj, q1⟩
    rcases mem e1 e3 with ⟨z1, zb⟩ | ⟨z1, q1⟩
    · rcases mem e2 e4 with ⟨z2, _⟩ | ⟨z2, q2⟩
      · rw [z1, z2]
      · subst zb
        exact absurd (.inr ⟨k, ok, q2, e4⟩) nMa'
    · rcases mem e2 e4 with ⟨z2, zb⟩ | ⟨z2, q2⟩
      · subst zb
        exact absurd (.inr ⟨j, oj, q1, e3⟩) nMa'
      · exact x.rep.inj j k oj ok b q1 q2 e3 e4
  · rw [tb]
    exact x.rep.objs g ob eg
  · rcases (own_back (o := o) e' ea).mp t with t | t
    · exact x.rep.sep b hb t
    · exact nMa' (.inl (by rw [← t]; exact hb))
  · rcases m with m | m
    · exact (x.rep.far b (.inl t)).2 (.inl m)
    · rcases (own_back (o := o) e' ea).mp m with m | m
      · exact (x.rep.far b (.inl t)).2 (.inr m)
      · exact (r.far b t).2 (by rw [m]; exact mineA)
/-- it yields what it holds -/
theorem yields_lent {ds : List D} {vs : List V} (hF : F a) (nM : ¬ Mine μ s σ a) (ha : H a = some (.lst vs)) (c : AtL C (Tab F μ s σ) μ H vs ds) : Yields C F μ s σ H (Itl C.K a) ds := fun F1 μ1 s1 σ1 H1 x i => by
  have ha1 : H1 a = some (.lst vs) := x.keep.stay a _ ha nM
  refine ⟨fun hl => ⟨vs, .of ha1, by rw [c.length]; exact hl⟩, fun d ed => ?_⟩
  obtain ⟨v, ev, hv⟩ := c.at ed
  exact ⟨⟨vs, v, .of ha1, ev⟩, fun y H2 ⟨e2, q⟩ => by
    subst e2
    have := q vs (.of ha1)
    rw [ev] at this
    cases this
    exact ⟨fun _ _ e => e, x.at hv⟩⟩
end
def M.compOwn (i : Nat) (vs : List Nat) (t : Tgt) (c : M Bool) (e : M D) : M (List D) := fun s => match s.ρ[i]? with
  | some (.own (.lst ds)) => if lenOk (ds.length + 1) then match M.compL vs t c e ds { s with ρ := wipeR vs (s.ρ.set i .no) } with
      | .ok ys s' => match s'.ρ[i]? with
        | some .no => .ok ys { s' with ρ := s'.ρ.set i (.own (.lst ds)) }
        | _ => .stuck
      | _ => .stuck
    else .stuck
  | _ => .stuck
section
variable {X : Cx} {W : WX} {elt tg iter cnd : Expr} {ifs : List Expr} {scope : Scope} {own : List (Str × Nat)} {pos : Pos} {t : Tgt} {mc : M Bool} {me : M D} {i : Nat}
theorem tLc_core {F : Addr → Prop} {μ1 : List Addr} {s1 se : Sta} {σ : L2.St} {H1 : Hp} {Q : VK} {ds zs : List D} {J : It} {own : List (Str × Nat)} {vs : List Nat} (hvs : own.map (·.2) = vs) (hown : t.all = vs) (r1 : Rep (XC X) F μ1 s1 σ H1) (hJ : Yields (XC X) F μ1 s1 σ H1 J ds) (hl : lenOk (ds.length + 1) = true)
    (hc : M.compL vs t mc me ds { s1 with ρ := wipeR vs s1.ρ } = .ok zs se) (hK : ∀ μ' H', Ext (XC X) F μ1 s1 σ H1 μ' se σ H' → ∀ p us, H' p = none → AtL (XC X) (Tab F μ' se σ) μ' H' us zs → Q (.ref p) (upd H' p (.lst us))) : ∀ D, H1 D = none → ∃ W : Nat → Nat → Hp → Prop, (∃ m, W 0 m (upd H1 D (.lst []))) ∧ ∀ i m H, W i m H →
  (J.stop i H ∧ Q (.ref D) H) ∨ (J.go i H ∧ ∃ Nx : Hp → Prop, (∀ H', Nx H' → ∃ m', m' < m ∧ W (i + 1) m' H') ∧ ∀ x H', J.yld i H x H' → gOf X.K t x (L2.wipe σ vs) H' fun σ2 H2 => L2.wipe σ2 vs = L2.wipe σ vs ∧ tDB (XC X) W0 mc σ2 H2 fun b H3 =>
    if b = true then tD (XC X) W0 me σ2 H3 fun y H4 => ∃ acc, H4 D = some (.lst acc) ∧ acc.length < sizeLine ∧ Nx (upd H4 D (.lst (acc ++ [y]))) else Nx H3) := by
  intro D hD
  have nF : ¬ F D := fun z => (r1.far D z).1 hD
  refine ⟨fun i m Hc => m = ds.length - i ∧ ∃ (μ' : List Addr) (s' : Sta) (Hd : Hp) (acc : List V) (dn ys : List Ms.D), Hc = upd Hd D (.lst acc) ∧ Hd D = none ∧ Ext (XC X) F μ1 s1 σ H1 μ' { s' with ρ := wipeR vs s'.ρ } σ Hd ∧
    AtL (XC X) (Tab F μ' { s' with ρ := wipeR vs s'.ρ } σ) μ' Hd acc dn ∧ M.compL vs t mc me (ds.drop i) { s' with ρ := wipeR vs s'.ρ } = .ok ys se ∧ dn ++ ys = zs ∧ dn.length ≤ i,
    ⟨_, rfl, μ1, s1, H1, [], [], zs, rfl, hD, r1.wipe vs, .nil, hc, rfl, Nat.le_refl _⟩, ?_⟩
  rintro i m Hc ⟨rfl, μ', s', Hd, acc, dn, ys, rfl, hDd, x2, ha, hcc, hz, hdn⟩
  have xc : ExtF (XC X) F μ1 s1 σ H1 (Also F D) μ' { s' with ρ := wipeR vs s'.ρ } σ (upd Hd D (.lst acc)) :=
    ⟨fun a t => t.elim .inl fun z => .inr (by rw [z]; exact hD), x2.pre, x2.keep.trans ⟨fun a u e _ => by rw [upd_ne (ne_of_none e hDd)]; exact e, fun _ t => .inl t⟩, x2.rep.forbid hDd⟩
  obtain ⟨y1, y2⟩ := hJ _ _ _ _ _ xc i
  cases ed : ds[i]? with
  | none =>
    have hl2 : ds.length ≤ i := List.getElem?_eq_none_iff.mp ed
    rw [List.drop_eq_nil_of_le hl2] at hcc
    cases hcc
    rw [List.append_nil] at hz
    subst hz
    exact .inl ⟨y1 hl2, hK _ _ x2 D acc hDd ha⟩
  | some d =>
    obtain ⟨hl2, ed'⟩ := List.getElem?_eq_some_iff.mp ed
    obtain ⟨go, y3⟩ := y2 d ed
    rw [List.drop_eq_getElem_cons hl2, ed'] at hcc
    obtain ⟨s3, b, s4, e3, e4, rest⟩ := compL_cons hcc
    refine .inr ⟨go, fun H' => ds.length - (i + 1) = ds.length - (i + 1) ∧ ∃ (μ' : List Addr) (s' : Sta) (Hd : Hp) (acc : List V) (dn ys : List Ms.D), H' = upd Hd D (.lst acc) ∧ Hd D = none ∧ Ext (XC X) F μ1 s1 σ H1 μ' { s' with ρ := wipeR vs s'.ρ } σ Hd ∧
      AtL (XC X) (Tab F μ' { s' with ρ := wipeR vs s'.ρ } σ) μ' Hd acc dn ∧ M.compL vs t mc me (ds.drop (i + 1)) { s' with ρ := wipeR vs s'.ρ } = .ok ys se ∧ dn ++ ys = zs ∧ dn.length ≤ i + 1, fun H' w => ⟨ds.length - (i + 1), by omega, w⟩, fun x H2 yl => ?_⟩
    obtain ⟨g2, y5⟩ := y3 x H2 yl
    have r2 : Rep (XC X) (Also F D) μ' { s' with ρ := wipeR vs s'.ρ } (L2.wipe σ vs) H2 := (xc.rep.grow g2).toWipe
    have m0 := mine_wipe (μ := μ') (s := s') (vs := vs) (wipe_idem vs σ)
    have y6 : At (XC X) (Tab (Also F D) μ' { s' with ρ := wipeR vs s'.ρ } (L2.wipe σ vs)) μ' H2 x d := by
      unfold Tab
      rw [m0]
      exact y5
    refine gOf_ok (C := XC X) r2 y6 e3 fun σ2 x3 w => ?_
    rw [hown] at w
    rw [wipe_idem] at w
    have nm : ¬ Mine μ' { s' with ρ := wipeR vs s'.ρ } (L2.wipe σ vs) D := fun z => (r2.far D (.inr rfl)).2 z
    refine ⟨w, (Also F D), μ', s3, x3.rep, Res.mkOk e4 fun μ4 H4 x4 => ?_⟩
    have lenDn : ∀ {l : List V}, AtL (XC X) (Tab F μ' { s' with ρ := wipeR vs s'.ρ } σ) μ' Hd l dn → l.length < sizeLine := fun {l} h => by
      have h3 := lenOk_line hl
      have h4 := h.length
      omega
    rcases rest with ⟨rfl, y, s5, ys', e5, ny, e6, rfl⟩ | ⟨rfl, e6⟩
    · refine iteT ?_
      refine ⟨(Also F D), μ4, s4, x4.rep, Res.mkOk e5 fun μ5 H5 x5 v hv => ?_⟩
      obtain ⟨z1, z2, z3⟩ := block_step hDd nF g2 nm ((x3.trans x4).trans x5) w
      exact ⟨acc, z2, lenDn ha, rfl, μ5, s5, _, acc ++ [v], dn ++ [y], ys', upd_del.symm, del_same, x2.trans z1, (z1.atL ha).append (.cons (z3 (hv.at ny)) .nil), e6, by rw [← hz]; simp, by simpa using hdn⟩
    · refine iteF ?_
      obtain ⟨z1, z2, z3⟩ := block_step hDd nF g2 nm (x3.trans x4) w
      exact ⟨rfl, μ4, s4, _, acc, dn, ys, by
        funext a
        by_cases h : a = D
        · rw [h, upd_same, z2]
        · rw [upd_ne h, del_ne h], del_same, x2.trans z1, z1.atL ha, e6, hz, Nat.le_succ_of_le hdn⟩
theorem df_compOwn (hc : X.calm = true) (hN : X.N.Nodup) (hi : PE X iter (tVar i)) (ok : BlkOk X.N X.env.scope scope own) (hown : t.all = own.map (·.2))
    (hg : ∀ (s : Shared) (H : Hp) (Cc : Addr) (cl : List (Str × Addr)) (fp : List Addr), PG (X.blk s H scope (compEnvC scope cl Cc X.env) fp) tg (gOf X.K t))
    (ht : ∀ (s : Shared) (H : Hp) (Cc : Addr) (cl : List (Str × Addr)) (fp : List Addr), PTs (X.blk s H scope (compEnvC scope cl Cc X.env) fp) ifs (tDB (XC X) W0 mc))
    (he : ∀ (s : Shared) (H : Hp) (Cc : Addr) (cl : List (Str × Addr)) (fp : List Addr), PE (X.blk s H scope (compEnvC scope cl Cc X.env) fp) elt (tD (XC X) W0 me)) (hs : ∀ x, foldedSetIterable iter X.env x = pure x := by intro _; rfl) :
    PE X (.ListComp elt [⟨tg, iter, ifs, 0⟩] scope pos) (tDF (XC X) W (M.compOwn i (own.map (·.2)) t mc me)) := by
  refine peImp (pe_lc hc hN (pi_list hi) ok hg ht he hs) fun σ H Q ⟨F, μ, s, r, q⟩ => ?_
  unfold Res M.compOwn at q
  cases e : s.ρ[i]? with
  | none => rw [e] at q; exact q.elim
  | some sl =>
    rw [e] at q
    cases sl with
    | no => exact q.elim
    | val d => exact q.elim
    | own o =>
      cases o with
      | dct _ _ _ => exact q.elim
      | ins _ _ _ => exact q.elim
      | lst ds =>
        simp only at q
        by_cases hl : lenOk (ds.length + 1) = true
        · rw [if_pos hl] at q
          obtain ⟨a, ea, vs, hH, c⟩ := r.slots i _ e
          have r1 := r.lend e ea
          cases hc : M.compL (own.map (·.2)) t mc me ds { s with ρ := wipeR (own.map (·.2)) (s.ρ.set i .no) } with
          | stuck => rw [hc] at q; exact q.elim
          | exc z se => rw [hc] at q; exact q.elim
          | ok zs se =>
            rw [hc] at q
            simp only at q
            cases e' : se.ρ[i]? with
            | none => rw [e'] at q; exact q.elim
            | some sl =>
              rw [e'] at q
              cases sl with
              | val _ => exact q.elim
              | own _ => exact q.elim
              | no =>
                rw [← tab_lend r e ea] at c
                refine ⟨_, ea, a, rfl, ⟨vs, .of hH⟩, tLc_core rfl hown r1 (yields_lent (.inr rfl) (r1.far a (.inr rfl)).2 hH c) hl hc fun μ' H' x p us hp hv => ?_⟩
                have y := x.back r e ea e'
                refine q μ' H' y p us hp ?_
                rw [tab_back e' ea]
                exact hv
        · rw [if_neg hl] at q
          exact q.elim
end
end Ms
/-! Ms23: a, b, .. = a list. -/
namespace Ms
open PySem PySem.Spec PyProof.Rows L2
def M.bindL (is : List Nat) (d : D) : M Fl := fun s => match d with
  | .lst ds => match putAll is ds s.ρ with
    | some ρ => .ok .nx { s with ρ := ρ }
    | none => .stuck
  | _ => .stuck
def M.setManyL (is : List Nat) (m : M D) : M Fl := do
  let d ← m
  let d ← M.out d
  M.bindL is d
section
variable {X : Cx} {W : WX} {e : Expr} {es : List Expr} {pos tpos : Pos} {m : M D} {is : List Nat} {k : Nat}
theorem ds_setManyL (hc : X.calm = true) (hg : PGs X es (gNames is)) (he : PE X e (tD (XC X) W m)) (hn : (assignEach es X.env).length = is.length := by rfl) (hst : (assignEach es X.env).findIdx? (·.1) = none := by rfl) (hs : swapsWithSole [.Tuple es k tpos] e pos.line X.env = pure false := by rfl) (hw : swappedStores [.Tuple es k tpos] e X.env = pure none := by rfl)
    (h1 : (assignEach [.Tuple es k tpos] X.env).map (·.2) = [assign (.Tuple es k tpos) X.env] := by rfl) : PS X (.Assign [.Tuple es k tpos] e pos) (tDS (XC X) W (M.setManyL is m)) :=
  psImp (ps_asg he (pg_unl hc hg hn hst) hs hw h1) fun E σ H ⟨F, μ, s, r, q⟩ => ⟨F, μ, s, r, q.splitE.imp fun d μ1 s1 H1 x1 h1 v hv => by
    obtain ⟨n, h1⟩ := resS_out x1.rep h1
    unfold ResS M.bindL at h1
    cases d with
    | lst ds =>
      simp only at h1
      cases e : putAll is ds s1.ρ with
      | none => rw [e] at h1; exact h1.elim
      | some ρ =>
        rw [e] at h1
        obtain ⟨a, vs, rfl, f, c⟩ := At.lst_inv hv
        exact ⟨a, vs, rfl, .of f.2, by rw [c.length, ← putAll_len e], gNames_ok (vs' := is) x1.rep c e (fun _ h => h) fun σ' x2 _ => h1 μ1 σ' H1 x2⟩
    | _ => exact h1.elim⟩
end
end Ms
namespace Ms
open PySem PySem.Spec PyProof.Rows L2 MsT
section
variable {X : Cx} {W : WX} {a b c d e : Expr} {op op' op2 : CmpOp} {pos : Pos} {ma mb mc md : M D}
/-! ### a op b op c op d -/
def tChain3 (r r' r2 : R2) (ta tb tc td : TE) : TE := fun σ H Q => ta σ H fun x H1 => tb σ H1 fun y H2 => r x y H2 fun z H3 => ∃ k, z = .bl k ∧
  (if k = true then tc σ H3 fun w' H4 => r' y w' H4 fun z2 H5 => ∃ k2, z2 = .bl k2 ∧ (if k2 = true then td σ H5 fun u H6 => r2 w' u H6 Q else Q (.bl false) H5) else Q (.bl false) H3)
theorem pe_chain3 {r r' r2 : R2} {ta tb tc td : TE} (ho : OpR X (compareOp op) r) (ho' : OpR X (compareOp op') r') (ho2 : OpR X (compareOp op2) r2) (ha : PE X a ta) (hb : PE X b tb) (hc : PE X c tc) (hd : PE X d td)
    (hm : lastMarks [op, op', op2] [b, c, d] = false := by with_unfolding_all rfl) : PE X (.Compare a [op, op', op2] [b, c, d] pos) (tChain3 r r' r2 ta tb tc td) := by
  refine ⟨fun pins s σ H Q I h => ?_⟩
  refine Compare_chain (thn (ha.run pins s σ H _ I h) fun v s1 ⟨x, H1, I1, r1, q1⟩ => chain_link (thn (hb.run pins s1 σ H1 _ I1 q1) fun u s2 ⟨y, H2, I2, rr2, q2⟩ =>
    thn (ho pins s2 σ H2 x y v u _ I2 r1 rr2 q2) fun dd s3 ⟨z, H3, I3, r3, k, e, q3⟩ => ?_)) hm
  subst e
  cases r3
  refine wpAny_truthy_bool ?_
  cases k with
  | false => exact ite_ff ⟨.bl false, H3, I3, rfl, q3⟩
  | true =>
    refine ite_tt (chain_link (thn (hc.run pins s3 σ H3 _ I3 q3) fun w' s4 ⟨z', H4, I4, r4, q4⟩ => thn (ho' pins s4 σ H4 y z' u w' _ I4 rr2 r4 q4) fun dd2 s5 ⟨z5, H5, I5, r5, k5, e5, q5⟩ => ?_))
    subst e5
    cases r5
    refine wpAny_truthy_bool ?_
    cases k5 with
    | false => exact ite_ff ⟨.bl false, H5, I5, rfl, q5⟩
    | true => exact ite_tt (chain_last (thn (hd.run pins s5 σ H5 _ I5 q5) fun w6 s6 ⟨z6, H6, I6, r6, q6⟩ => ho2 pins s6 σ H6 z' z6 w' w6 Q I6 r4 r6 q6))
def M.chain3 (f g h : D → D → M D) (a b c d : M D) : M D := do
  let x ← a
  let y ← b
  let k ← M.bool (f x y)
  if k then do
    let z ← c
    let k2 ← M.bool (g y z)
    if k2 then do
      let w ← d
      h z w
    else pure (.bl false)
  else pure (.bl false)
theorem tD_chain3 {r r' r2 : R2} {f g h : D → D → M D} (hr : OpD (XC X) r f) (hr' : OpD (XC X) r' g) (hr2 : OpD (XC X) r2 h) (σ : L2.St) (H : Hp) (Q : VK) (hh : tD (XC X) W (M.chain3 f g h ma mb mc md) σ H Q) :
    tChain3 r r' r2 (tD (XC X) W ma) (tD (XC X) W mb) (tD (XC X) W mc) (tD (XC X) W md) σ H Q := by
  obtain ⟨F, μ, s, rp, hh⟩ := hh
  refine ⟨F, μ, s, rp, hh.split.imp fun d μ1 s1 H1 x1 h1 v hv => ⟨F, μ1, s1, x1.rep, h1.split.imp fun e μ2 s2 H2 x2 h2 w hw => ?_⟩⟩
  refine hr x2.rep (x2.atX hv) hw (W := W) (h2.split.split.imp fun z μ3 s3 H3 x3 h3 u hu => ?_)
  cases z with
  | bl k =>
    cases At.bl_inv hu
    refine ⟨k, rfl, ?_⟩
    have h4 := h3.pure x3.rep
    cases k with
    | true =>
      rw [if_pos rfl] at h4 ⊢
      refine ⟨F, μ3, s3, x3.rep, h4.split.imp fun z μ4 s4 H4 x4 h4 u hu => ?_⟩
      refine hr' x4.rep (x4.atX (x3.atX hw)) hu (W := W) (h4.split.split.imp fun z2 μ5 s5 H5 x5 h5 u2 hu2 => ?_)
      cases z2 with
      | bl k2 =>
        cases At.bl_inv hu2
        refine ⟨k2, rfl, ?_⟩
        have h6 := h5.pure x5.rep
        cases k2 with
        | true =>
          rw [if_pos rfl] at h6 ⊢
          exact ⟨F, μ5, s5, x5.rep, h6.split.imp fun z μ6 s6 H6 x6 h6 u3 hu3 => hr2 x6.rep (x6.atX (x5.atX hu)) hu3 h6⟩
        | false =>
          rw [if_neg (by simp)] at h6 ⊢
          exact h6.pure x5.rep _ (.of (.bl _))
      | _ => exact (res_stuck h5).elim
    | false =>
      rw [if_neg (by simp)] at h4 ⊢
      exact h4.pure x3.rep _ (.of (.bl _))
  | _ => exact (res_stuck h3).elim
theorem d_chain3 {f g h : D → D → M D} (h1 : CmpD X op f) (h2 : CmpD X op' g) (h3 : CmpD X op2 h) (ha : PE X a (tD (XC X) W ma)) (hb : PE X b (tD (XC X) W mb)) (hc : PE X c (tD (XC X) W mc)) (hd : PE X d (tD (XC X) W md)) (hm : lastMarks [op, op', op2] [b, c, d] = false := by with_unfolding_all rfl) :
    PE X (.Compare a [op, op', op2] [b, c, d] pos) (tD (XC X) W (M.chain3 f g h ma mb mc md)) := by
  obtain ⟨r, k1, k2⟩ := h1.ex
  obtain ⟨r', k3, k4⟩ := h2.ex
  obtain ⟨r2, k5, k6⟩ := h3.ex
  exact peImp (pe_chain3 k1 k3 k5 ha hb hc hd hm) (tD_chain3 k2 k4 k6)
/-! ### list(..) -/
abbrev fList : D → M D := fun d => M.look fun s => match d with
  | .tup l => some (.lst l)
  | d => (d.seqL s).map .lst
theorem list_ok {C : RC} : OpD1 C (fun xs H Q => ∃ p ys, xs = [.ref p] ∧ (SqL C.K H p ys ∨ SqT C.K H p ys) ∧ ∀ l, H l = none → Q (.ref l) (upd H l (.lst ys))) fList := by
  intro W F μ s σ H x d Q r hx h
  obtain ⟨z, ez, k⟩ := res_look h
  split at ez
  · cases ez
    obtain ⟨a, vs, rfl, hp, c⟩ := At.tup_inv hx
    exact ⟨a, vs, rfl, .inr (SqTA.sq hp), fun p hpn => k _ (r.ext1 hpn) _ (.of (r.newLst hpn c))⟩
  · obtain ⟨l, e1, rfl⟩ := Option.map_eq_some_iff.mp ez
    obtain ⟨a, vs, rfl, hp, c⟩ := r.seqL hx e1
    exact ⟨a, vs, rfl, .inl (.of hp), fun p hpn => k _ (r.ext1 hpn) _ (.of (r.newLst hpn c))⟩
/-! ### list * int -/
theorem AtL.rep {C : RC} {T : Addr → Prop} {μ : List Addr} {H : Hp} {vs : List V} {ds : List D} (h : AtL C T μ H vs ds) : ∀ n : Nat, AtL C T μ H (List.replicate n vs).flatten (List.replicate n ds).flatten
  | 0 => .nil
  | n + 1 => by
    rw [List.replicate_succ, List.replicate_succ, List.flatten_cons, List.flatten_cons]
    exact h.append (AtL.rep h n)
def repD (s : Sta) (a b : D) : Option D := match b with
  | .int k => (a.seqL s).bind fun l => if l.length * k.toNat ≤ 16777216 ∧ -(2 ^ 63) ≤ k ∧ k < 2 ^ 63 then some (.lst (List.replicate k.toNat l).flatten) else none
  | _ => none
abbrev fRep : D → D → M D := fun a b => M.look fun s => repD s a b
theorem rep_ok {C : RC} : OpD C rRep fRep := by
  intro W F μ s σ H x y d e Q r hx hy h
  obtain ⟨z, ez, k⟩ := res_look h
  unfold repD at ez
  split at ez
  · rename_i i
    obtain ⟨l, e1, e2⟩ := Option.bind_eq_some_iff.mp ez
    split at e2
    · rename_i hl
      cases e2
      cases at_int (T := F) hy
      obtain ⟨a, vs, rfl, hp, c⟩ := r.seqL hx e1
      refine ⟨a, i, vs, rfl, rfl, hp, hl.2.1, hl.2.2, ?_, fun p hpn => k _ (r.ext1 hpn) _ (.of (r.newLst hpn (c.rep _)))⟩
      rw [c.length]
      exact Nat.le_trans hl.1 (by decide)
    · cases e2
  · cases ez
theorem d_rep (ha : PE X a (tD (XC X) W ma)) (hb : PE X b (tD (XC X) W mb)) : PE X (.BinOp a .Mult b pos) (tD (XC X) W (M.op2 fRep ma mb)) := peImp (pe_op op_rep ha hb) (tD_op rep_ok)
/-! ### text[::-1] -/
theorem strRev (z : Str) : Builtin.Str.strSliceIndices none none (-1) z.length = sliceRange ((z.length : Int) - 1) (-1) (-1) := rfl
theorem revPick (z : Str) : ((Builtin.Str.strSliceIndices none none (-1) z.length).filterMap (z.cps[·]?)) = z.cps.toList.reverse := by
  rw [strRev]
  show (sliceRange ((z.cps.size : Int) - 1) (-1) (-1)).filterMap (z.cps[·]?) = _
  rw [PySem.W.krv_sliceRange, PySem.W.krv_range, List.filterMap_reverse, PySem.W.krv_all]
def tRevS (te : TE) : TE := fun σ H Q => te σ H fun x H1 => ∃ z, x = .str z ∧ z.length ≤ sizeLine ∧ Q (.str ⟨z.cps.toList.reverse.toArray⟩) H1
theorem pe_revS {te : TE} {k : Nat} {p1 p2 p3 : Pos} (he : PE X e te) : PE X (.Subscript e (.Slice none none (some (.UnaryOp .USub (.Constant (.int 1) k p1) p2)) p3) pos) (tRevS te) := by
  refine ⟨fun pins s σ H Q I h => ?_⟩
  refine Subscript_ (thn (he.run pins s σ H _ I h) fun v s1 ⟨x, H1, I1, r1, q1⟩ => ?_)
  obtain ⟨z, ex, hz, q⟩ := q1
  subst ex
  obtain ⟨t, rfl⟩ := r1
  have hst : PO X (some (.UnaryOp .USub (.Constant (.int 1) k p1) p2)) (tPart (tUn (rU fun i => .int (-i)) (tC (.int 1)))) := po_some (pe_un un_neg pe_int)
  refine wpAny_Slice (thn (po_none.run pins s1 σ H1 (fun o H2 => o = none ∧ H2 = H1) I1 ⟨rfl, rfl⟩) fun vl s2 ⟨l, H2, I2, pl, el, e2⟩ => ?_)
  subst el e2
  refine thn (po_none.run pins s2 σ H2 (fun o H3 => o = none ∧ H3 = H2) I2 ⟨rfl, rfl⟩) fun vu s3 ⟨u, H3, I3, pu, eu, e3⟩ => ?_
  subst eu e3
  refine thn (hst.run pins s3 σ H3 (fun o H4 => o = some (-1) ∧ H4 = H3) I3 ⟨1, rfl, -1, rfl, rfl, rfl⟩) fun vs s4 ⟨o, H4, I4, ps, eo, e4⟩ => ?_
  subst eo e4
  have I5 : Inv X pins σ H4 { s4 with heap := s4.heap.push { cls := .type "slice", data := .fields #[vl, vu, vs] } } := I4.kept (t' := s4.toks) fun b ob q => Heap.get?_push_of_some _ q
  obtain ⟨l, rfl, el⟩ := IsPart.raw pl
  obtain ⟨u, rfl, eu⟩ := IsPart.raw pu
  obtain ⟨o, rfl, eo⟩ := IsPart.raw ps
  show wpAny (model X.prog X.w) X.A (subscriptTail e (.Slice none none (some (.UnaryOp .USub (.Constant (.int 1) k p1) p2)) p3) (.str z t) (.ref s4.heap.objs.size)) (EP X pins σ Q) X.xe { s4 with heap := s4.heap.push { cls := .type "slice", data := .fields #[partValue l, partValue u, partValue o] } }
  refine tail_any (ops := [.str z t, .ref s4.heap.objs.size]) (typeIs_str _ z t) (PySem.F.slot_str_getitem.lookup) ?_ (by with_unfolding_all rfl)
  refine wpAny_getItem_str_slice (l := l) (u := u) (st := o) ⟨_, Heap.get?_push_size _ rfl, rfl, rfl⟩ (by rw [eo]; rfl) ?_
  unfold sliceMade slicePicked
  rw [el, eu, eo]
  show Made.post (if ((-1 : Int) == 1 && _) = true then _ else Made.str ⟨((Builtin.Str.strSliceIndices none none (-1) z.length).filterMap (z.cps[·]?)).toArray⟩) _ _
  rw [revPick, if_neg (by rw [show ((-1 : Int) == 1) = false from rfl]; simp)]
  refine ⟨?_, .str _, H4, I5.tok _, ⟨_, rfl⟩, q⟩
  show z.cps.toList.reverse.toArray.size ≤ sizeLine
  rw [List.size_toArray, List.length_reverse, Array.length_toList]
  exact hz
def revSD (d : D) : Option D := match d with
  | .str z => if lenOk z.length then some (.str ⟨z.cps.toList.reverse.toArray⟩) else none
  | _ => none
def M.revS (m : M D) : M D := do M.opt (revSD (← m))
theorem d_revS {k : Nat} {p1 p2 p3 : Pos} {m : M D} (he : PE X e (tD (XC X) W m)) : PE X (.Subscript e (.Slice none none (some (.UnaryOp .USub (.Constant (.int 1) k p1) p2)) p3) pos) (tD (XC X) W (M.revS m)) := by
  refine peImp (pe_revS he) fun σ H Q ⟨F, μ, s, r, q⟩ => ⟨F, μ, s, r, q.split.imp fun d μ1 s1 H1 x1 h1 v hv => ?_⟩
  obtain ⟨z, ez, k⟩ := res_opt x1.rep h1
  unfold revSD at ez
  split at ez
  · rename_i y
    split at ez
    · rename_i hl
      cases ez
      cases at_str hv
      exact ⟨y, rfl, lenOk_line hl, k _ (.of (.str _))⟩
    · cases ez
  · cases ez
end
end Ms
namespace Pw
open PySem PySem.Spec PyProof.Rows L2 Ms
section
variable {P : Program} {w : World} {K : PySem.W.Frag} {mg : Str → Option Value} {base : Heap}
theorem gE (E : Ms.Env fb fn K mg base) {x : Str} (h : glos.elem x = true) : mg x = some (.ref (He.ga K x)) := E.glo 0 (List.elem_iff.mp h) rfl
theorem fE (E : Ms.Env fb fn K mg base) {x : Str} (h : frees.elem x = true) : mg x = none := E.free 1 (List.elem_iff.mp h) rfl
theorem gc_LETTERS (E : Ms.Env fb fn K mg base) : ∃ t, mg "LETTERS" = some (.str "abcdefghijklmnopqrstuvwxyz" t) := by
  obtain ⟨hp, X, G⟩ := E.h
  exact He.str_ok X G (E.c.fact 38 (f := .f (.str "LETTERS" "abcdefghijklmnopqrstuvwxyz")) rfl)
theorem gc_POOL (E : Ms.Env fb fn K mg base) : ∃ t, mg "POOL" = some (.int 1000000 t) := by
  obtain ⟨hp, X, G⟩ := E.h
  exact He.int_ok X G (E.c.fact 39 (f := .f (.int "POOL" 1000000)) rfl)
theorem gc_MOST_SIGNS (E : Ms.Env fb fn K mg base) : ∃ t, mg "MOST_SIGNS" = some (.int 2000 t) := by
  obtain ⟨hp, X, G⟩ := E.h
  exact He.int_ok X G (E.c.fact 40 (f := .f (.int "MOST_SIGNS" 2000)) rfl)
theorem gc_MOST_SPANS (E : Ms.Env fb fn K mg base) : ∃ t, mg "MOST_SPANS" = some (.int 60 t) := by
  obtain ⟨hp, X, G⟩ := E.h
  exact He.int_ok X G (E.c.fact 41 (f := .f (.int "MOST_SPANS" 60)) rfl)
theorem gc_MOST_NUMBER (E : Ms.Env fb fn K mg base) : ∃ t, mg "MOST_NUMBER" = some (.int 999999 t) := by
  obtain ⟨hp, X, G⟩ := E.h
  exact He.int_ok X G (E.c.fact 42 (f := .f (.int "MOST_NUMBER" 999999)) rfl)
theorem gc_FIRST_SIGN (E : Ms.Env fb fn K mg base) : ∃ t, mg "FIRST_SIGN" = some (.int 32 t) := by
  obtain ⟨hp, X, G⟩ := E.h
  exact He.int_ok X G (E.c.fact 43 (f := .f (.int "FIRST_SIGN" 32)) rfl)
theorem gc_LAST_SIGN (E : Ms.Env fb fn K mg base) : ∃ t, mg "LAST_SIGN" = some (.int 126 t) := by
  obtain ⟨hp, X, G⟩ := E.h
  exact He.int_ok X G (E.c.fact 44 (f := .f (.int "LAST_SIGN" 126)) rfl)
theorem gc_MOST_POURED (E : Ms.Env fb fn K mg base) : ∃ t, mg "MOST_POURED" = some (.int 200 t) := by
  obtain ⟨hp, X, G⟩ := E.h
  exact He.int_ok X G (E.c.fact 45 (f := .f (.int "MOST_POURED" 200)) rfl)
theorem gc_MOST_PARENTS (E : Ms.Env fb fn K mg base) : ∃ t, mg "MOST_PARENTS" = some (.int 2 t) := by
  obtain ⟨hp, X, G⟩ := E.h
  exact He.int_ok X G (E.c.fact 46 (f := .f (.int "MOST_PARENTS" 2)) rfl)
theorem gc_MOST_FIGURES (E : Ms.Env fb fn K mg base) : ∃ t, mg "MOST_FIGURES" = some (.int 7 t) := by
  obtain ⟨hp, X, G⟩ := E.h
  exact He.int_ok X G (E.c.fact 47 (f := .f (.int "MOST_FIGURES" 7)) rfl)
theorem gc_FIGURES (E : Ms.Env fb fn K mg base) : ∃ t, mg "FIGURES" = some (.str "0123456789" t) := by
  obtain ⟨hp, X, G⟩ := E.h
  exact He.str_ok X G (E.c.fact 48 (f := .f (.str "FIGURES" "0123456789")) rfl)
theorem gc_NONE (E : Ms.Env fb fn K mg base) : ∃ t, mg "NONE" = some (.str "-" t) := by
  obtain ⟨hp, X, G⟩ := E.h
  exact He.str_ok X G (E.c.fact 49 (f := .f (.str "NONE" "-")) rfl)
theorem x0_LoomError (E : Ms.Env fb fn K mg base) : X0 K mg "LoomError" (He.ga K "LoomError") := E.x0 0 3 (xs := glos) (by decide +kernel)
theorem x0_ToldError (E : Ms.Env fb fn K mg base) : X0 K mg "ToldError" (He.ga K "ToldError") := E.x0 0 4 (xs := glos) (by decide +kernel)
theorem x0_AskedError (E : Ms.Env fb fn K mg base) : X0 K mg "AskedError" (He.ga K "AskedError") := E.x0 0 5 (xs := glos) (by decide +kernel)
theorem x0_NoRecord (E : Ms.Env fb fn K mg base) : X0 K mg "NoRecord" (He.ga K "NoRecord") := E.x0 0 6 (xs := glos) (by decide +kernel)
theorem x0_NoName (E : Ms.Env fb fn K mg base) : X0 K mg "NoName" (He.ga K "NoName") := E.x0 0 7 (xs := glos) (by decide +kernel)
theorem x0_NoRow (E : Ms.Env fb fn K mg base) : X0 K mg "NoRow" (He.ga K "NoRow") := E.x0 0 8 (xs := glos) (by decide +kernel)
theorem x0_NoPrices (E : Ms.Env fb fn K mg base) : X0 K mg "NoPrices" (He.ga K "NoPrices") := E.x0 0 9 (xs := glos) (by decide +kernel)
theorem x0_NoDeed (E : Ms.Env fb fn K mg base) : X0 K mg "NoDeed" (He.ga K "NoDeed") := E.x0 0 10 (xs := glos) (by decide +kernel)
theorem x0_NoEnd (E : Ms.Env fb fn K mg base) : X0 K mg "NoEnd" (He.ga K "NoEnd") := E.x0 0 11 (xs := glos) (by decide +kernel)
theorem x0_Twice (E : Ms.Env fb fn K mg base) : X0 K mg "Twice" (He.ga K "Twice") := E.x0 0 12 (xs := glos) (by decide +kernel)
theorem x0_TooLong (E : Ms.Env fb fn K mg base) : X0 K mg "TooLong" (He.ga K "TooLong") := E.x0 0 13 (xs := glos) (by decide +kernel)
theorem x0_NoSigns (E : Ms.Env fb fn K mg base) : X0 K mg "NoSigns" (He.ga K "NoSigns") := E.x0 0 14 (xs := glos) (by decide +kernel)
theorem x0_NoLink (E : Ms.Env fb fn K mg base) : X0 K mg "NoLink" (He.ga K "NoLink") := E.x0 0 15 (xs := glos) (by decide +kernel)
theorem x0_NoBase (E : Ms.Env fb fn K mg base) : X0 K mg "NoBase" (He.ga K "NoBase") := E.x0 0 16 (xs := glos) (by decide +kernel)
theorem xf_line (E : Ms.Env fb fn K mg base) : XfOk K mg "line" xs_line := E.xf 0 37 (xs := glos) (by decide +kernel)
theorem exm_NoText (E : Ms.Env fb fn K mg base) : ∀ c b A, ec_NoText c = some b → mg c = some (.ref A) → PySem.W.exmOne K (.ref A) (.ref (He.ga K "NoText")) = some b := E.exm 0 77 (u := .x "NoText") (xs := glos) (by decide +kernel)
theorem kt_int (E : Ms.Env fb fn K mg base) : KtOk K mg (fun t => PySem.W.kitOne K t (tyV K (.b "int"))) kf_int := E.kt 0 2 50 (xs := glos) (ys := excs) (by decide +kernel)
theorem kt_bool (E : Ms.Env fb fn K mg base) : KtOk K mg (fun t => PySem.W.kitOne K t (tyV K (.b "bool"))) kf_bool := E.kt 0 2 51 (xs := glos) (ys := excs) (by decide +kernel)
theorem kt_str (E : Ms.Env fb fn K mg base) : KtOk K mg (fun t => PySem.W.kitOne K t (tyV K (.b "str"))) kf_str := E.kt 0 2 52 (xs := glos) (ys := excs) (by decide +kernel)
theorem kt_tuple (E : Ms.Env fb fn K mg base) : KtOk K mg (fun t => PySem.W.kitOne K t (tyV K (.b "tuple"))) kf_tuple := E.kt 0 2 53 (xs := glos) (ys := excs) (by decide +kernel)
theorem kt_Twice (E : Ms.Env fb fn K mg base) : KtOk K mg (fun t => PySem.W.kitOne K t (tyV K (.x "Twice"))) kf_Twice := E.kt 0 2 54 (xs := glos) (ys := excs) (by decide +kernel)
theorem kt_Wanting (E : Ms.Env fb fn K mg base) : KtOk K mg (fun t => PySem.W.kitOne K t (tyV K (.x "Wanting"))) kf_Wanting := E.kt 0 2 55 (xs := glos) (ys := excs) (by decide +kernel)
theorem kt_ValueError (E : Ms.Env fb fn K mg base) : KtOk K mg (fun t => PySem.W.kitOne K t (tyV K (.b "ValueError"))) kf_ValueError := E.kt 0 2 56 (xs := glos) (ys := excs) (by decide +kernel)
theorem kt_NoText (E : Ms.Env fb fn K mg base) : KtOk K mg (fun t => PySem.W.kitOne K t (tyV K (.x "NoText"))) kf_NoText := E.kt 0 2 57 (xs := glos) (ys := excs) (by decide +kernel)
theorem kt_NoVersion (E : Ms.Env fb fn K mg base) : KtOk K mg (fun t => PySem.W.kitOne K t (tyV K (.x "NoVersion"))) kf_NoVersion := E.kt 0 2 58 (xs := glos) (ys := excs) (by decide +kernel)
theorem kt_NoWork (E : Ms.Env fb fn K mg base) : KtOk K mg (fun t => PySem.W.kitOne K t (tyV K (.x "NoWork"))) kf_NoWork := E.kt 0 2 59 (xs := glos) (ys := excs) (by decide +kernel)
theorem kt_TooLong (E : Ms.Env fb fn K mg base) : KtOk K mg (fun t => PySem.W.kitOne K t (tyV K (.x "TooLong"))) kf_TooLong := E.kt 0 2 60 (xs := glos) (ys := excs) (by decide +kernel)
theorem kt_NoPrices (E : Ms.Env fb fn K mg base) : KtOk K mg (fun t => PySem.W.kitOne K t (tyV K (.x "NoPrices"))) kf_NoPrices := E.kt 0 2 61 (xs := glos) (ys := excs) (by decide +kernel)
theorem kt_NoRecord (E : Ms.Env fb fn K mg base) : KtOk K mg (fun t => PySem.W.kitOne K t (tyV K (.x "NoRecord"))) kf_NoRecord := E.kt 0 2 62 (xs := glos) (ys := excs) (by decide +kernel)
theorem kt_NoRow (E : Ms.Env fb fn K mg base) : KtOk K mg (fun t => PySem.W.kitOne K t (tyV K (.x "NoRow"))) kf_NoRow := E.kt 0 2 63 (xs := glos) (ys := excs) (by decide +kernel)
theorem kt_NoSigns (E : Ms.Env fb fn K mg base) : KtOk K mg (fun t => PySem.W.kitOne K t (tyV K (.x "NoSigns"))) kf_NoSigns := E.kt 0 2 64 (xs := glos) (ys := excs) (by decide +kernel)
theorem kt_NoEnd (E : Ms.Env fb fn K mg base) : KtOk K mg (fun t => PySem.W.kitOne K t (tyV K (.x "NoEnd"))) kf_NoEnd := E.kt 0 2 65 (xs := glos) (ys := excs) (by decide +kernel)
theorem kt_NoLink (E : Ms.Env fb fn K mg base) : KtOk K mg (fun t => PySem.W.kitOne K t (tyV K (.x "NoLink"))) kf_NoLink := E.kt 0 2 66 (xs := glos) (ys := excs) (by decide +kernel)
theorem kt_NoName (E : Ms.Env fb fn K mg base) : KtOk K mg (fun t => PySem.W.kitOne K t (tyV K (.x "NoName"))) kf_NoName := E.kt 0 2 67 (xs := glos) (ys := excs) (by decide +kernel)
theorem kt_NoPlace (E : Ms.Env fb fn K mg base) : KtOk K mg (fun t => PySem.W.kitOne K t (tyV K (.x "NoPlace"))) kf_NoPlace := E.kt 0 2 68 (xs := glos) (ys := excs) (by decide +kernel)
theorem kt_Gainsaid (E : Ms.Env fb fn K mg base) : KtOk K mg (fun t => PySem.W.kitOne K t (tyV K (.x "Gainsaid"))) kf_Gainsaid := E.kt 0 2 69 (xs := glos) (ys := excs) (by decide +kernel)
theorem kt_NoAuthor (E : Ms.Env fb fn K mg base) : KtOk K mg (fun t => PySem.W.kitOne K t (tyV K (.x "NoAuthor"))) kf_NoAuthor := E.kt 0 2 70 (xs := glos) (ys := excs) (by decide +kernel)
theorem kt_NoBase (E : Ms.Env fb fn K mg base) : KtOk K mg (fun t => PySem.W.kitOne K t (tyV K (.x "NoBase"))) kf_NoBase := E.kt 0 2 71 (xs := glos) (ys := excs) (by decide +kernel)
theorem kt_NoDeed (E : Ms.Env fb fn K mg base) : KtOk K mg (fun t => PySem.W.kitOne K t (tyV K (.x "NoDeed"))) kf_NoDeed := E.kt 0 2 72 (xs := glos) (ys := excs) (by decide +kernel)
theorem kt_AskedError (E : Ms.Env fb fn K mg base) : KtOk K mg (fun t => PySem.W.kitOne K t (tyV K (.x "AskedError"))) kf_AskedError := E.kt 0 2 73 (xs := glos) (ys := excs) (by decide +kernel)
theorem kt_ToldError (E : Ms.Env fb fn K mg base) : KtOk K mg (fun t => PySem.W.kitOne K t (tyV K (.x "ToldError"))) kf_ToldError := E.kt 0 2 74 (xs := glos) (ys := excs) (by decide +kernel)
theorem kt_Crossed (E : Ms.Env fb fn K mg base) : KtOk K mg (fun t => PySem.W.kitOne K t (tyV K (.x "Crossed"))) kf_Crossed := E.kt 0 2 75 (xs := glos) (ys := excs) (by decide +kernel)
theorem kt_Forged (E : Ms.Env fb fn K mg base) : KtOk K mg (fun t => PySem.W.kitOne K t (tyV K (.x "Forged"))) kf_Forged := E.kt 0 2 76 (xs := glos) (ys := excs) (by decide +kernel)
theorem sc_NoText : FnScope ["self", "line"] ["self", "line"] (defScope s_NoText) := ⟨rfl, rfl, rfl, by decide +kernel, rfl, by decide +kernel, by decide +kernel⟩
theorem ini_NoText (E : Ms.Env fb fn K mg base) {fd : FuncData} (F : FunD K d_NoText.name d_NoText.qual d_NoText.params d_NoText.body d_NoText.scope (d_NoText.dvs K) (d_NoText.kws K) (He.fAd K d_NoText.at_) fd) : FnOk P w K mg base (CXn P w) 1 (He.fAd K d_NoText.at_) fd ["self", "line"] (spIni K "line") := by
  obtain ⟨r, vV⟩ := E.base_ 18 (x := "ToldError") rfl
  exact ini_ok 0 F sc_NoText (.inl rfl) (.inl rfl) rfl rfl (fun cdv A outer s H EE => pe_oini (B := "ToldError") rfl (gE E (by decide +kernel)) r vV (pa_cons (pv 0) (pa_cons pe_str pa_nil))) (fun _ _ _ _ _ _ => rfl) (fun _ _ _ _ _ _ => rfl)
theorem mx_NoText_d (E : Ms.Env fb fn K mg base) : MkX P w K mg base "NoText" "line" 1 0 [] pickN := by
  obtain ⟨fd, F⟩ := E.c.def_ 0 (d := d_NoText) rfl
  obtain ⟨i1, i2, i3⟩ := E.ini 20 (x := "NoText") (fl := "line") rfl
  obtain ⟨its, kb⟩ := F.kbindsD (ps := ["self", "line"]) 1 [] (fun us its _ => us ++ its) (by simp [d_NoText, He.DefD.dvs]) (fun r1 r2 _ => r1.append r2) (fun T kV doc pm an cdv ct us its ws h1 h2 h3 => match us, its, ws, h1, h2, h3 with | [_], [_], [], _, _, _ => ⟨_, rfl, rfl⟩)
  exact ⟨by decide, He.ga K "NoText", _, fd, _, _, _, fun _ _ => .non, (gE E (by decide +kernel)), oexB_ok (E.c.fact 19 (f := .oex "NoText") rfl), i1, i2, i3, ini_NoText E F, kb, fun a vs zs h1 h2 => match vs, zs, h1, h2 with | [], [], _, _ => rfl, fun C T μ H vs zs ds es l1 l2 h h2 => .non⟩
theorem mx_NoText_k (E : Ms.Env fb fn K mg base) : MkX P w K mg base "NoText" "line" 1 0 ["line"] pickK := by
  obtain ⟨fd, F⟩ := E.c.def_ 0 (d := d_NoText) rfl
  obtain ⟨i1, i2, i3⟩ := E.ini 20 (x := "NoText") (fl := "line") rfl
  exact ⟨by decide, He.ga K "NoText", _, fd, _, fun us ws => us ++ ws, fun vs zs => vs ++ zs, fun _ zs => zs.headD .non, (gE E (by decide +kernel)), oexB_ok (E.c.fact 19 (f := .oex "NoText") rfl), i1, i2, i3, ini_NoText E F, kb_all F 1 ["line"] (fun us ws => us ++ ws) (fun h h2 => h.append h2) (fun T kV doc pm an cdv ct us its ws h1 h2 h3 => match us, its, ws, h1, h2, h3 with | [_], [_], [_], _, _, _ => ⟨_, rfl, rfl⟩) (by simp [d_NoText, He.DefD.dvs]), fun a vs zs h1 h2 => match vs, zs, h1, h2 with | [], [v], _, _ => rfl, fun C T μ H vs zs ds es l1 l2 h h2 => match es, l2, h2 with | [d], _, .cons h .nil => h⟩
theorem sc_Forged : FnScope ["self", "name"] ["self", "name"] (defScope s_Forged) := ⟨rfl, rfl, rfl, by decide +kernel, rfl, by decide +kernel, by decide +kernel⟩
theorem ini_Forged (E : Ms.Env fb fn K mg base) {fd : FuncData} (F : FunD K d_Forged.name d_Forged.qual d_Forged.params d_Forged.body d_Forged.scope (d_Forged.dvs K) (d_Forged.kws K) (He.fAd K d_Forged.at_) fd) : FnOk P w K mg base (CXn P w) 1 (He.fAd K d_Forged.at_) fd ["self", "name"] (spIni K "name") := by
  obtain ⟨r, vV⟩ := E.base_ 18 (x := "ToldError") rfl
  exact ini_ok 0 F sc_Forged (.inl rfl) (.inl rfl) rfl rfl (fun cdv A outer s H EE => pe_oini (B := "ToldError") rfl (gE E (by decide +kernel)) r vV (pa_cons (pv 0) (pa_cons pe_str pa_nil))) (fun _ _ _ _ _ _ => rfl) (fun _ _ _ _ _ _ => rfl)
theorem sc_Gainsaid : FnScope ["self", "record"] ["self", "record"] (defScope s_Gainsaid) := ⟨rfl, rfl, rfl, by decide +kernel, rfl, by decide +kernel, by decide +kernel⟩
theorem ini_Gainsaid (E : Ms.Env fb fn K mg base) {fd : FuncData} (F : FunD K d_Gainsaid.name d_Gainsaid.qual d_Gainsaid.params d_Gainsaid.body d_Gainsaid.scope (d_Gainsaid.dvs K) (d_Gainsaid.kws K) (He.fAd K d_Gainsaid.at_) fd) : FnOk P w K mg base (CXn P w) 1 (He.fAd K d_Gainsaid.at_) fd ["self", "record"] (spIni K "record") := by
  obtain ⟨r, vV⟩ := E.base_ 18 (x := "ToldError") rfl
  exact ini_ok 0 F sc_Gainsaid (.inl rfl) (.inl rfl) rfl rfl (fun cdv A outer s H EE => pe_oini (B := "ToldError") rfl (gE E (by decide +kernel)) r vV (pa_cons (pv 0) (pa_cons pe_str pa_nil))) (fun _ _ _ _ _ _ => rfl) (fun _ _ _ _ _ _ => rfl)
theorem sc_NoPlace : FnScope ["self", "at"] ["self", "at"] (defScope s_NoPlace) := ⟨rfl, rfl, rfl, by decide +kernel, rfl, by decide +kernel, by decide +kernel⟩
theorem ini_NoPlace (E : Ms.Env fb fn K mg base) {fd : FuncData} (F : FunD K d_NoPlace.name d_NoPlace.qual d_NoPlace.params d_NoPlace.body d_NoPlace.scope (d_NoPlace.dvs K) (d_NoPlace.kws K) (He.fAd K d_NoPlace.at_) fd) : FnOk P w K mg base (CXn P w) 1 (He.fAd K d_NoPlace.at_) fd ["self", "at"] (spIni K "at") := by
  obtain ⟨r, vV⟩ := E.base_ 17 (x := "AskedError") rfl
  exact ini_ok 0 F sc_NoPlace (.inl rfl) (.inl rfl) rfl rfl (fun cdv A outer s H EE => pe_oini (B := "AskedError") rfl (gE E (by decide +kernel)) r vV (pa_cons (pv 0) (pa_cons pe_str pa_nil))) (fun _ _ _ _ _ _ => rfl) (fun _ _ _ _ _ _ => rfl)
theorem sc_Crossed : FnScope ["self", "which"] ["self", "which"] (defScope s_Crossed) := ⟨rfl, rfl, rfl, by decide +kernel, rfl, by decide +kernel, by decide +kernel⟩
theorem ini_Crossed (E : Ms.Env fb fn K mg base) {fd : FuncData} (F : FunD K d_Crossed.name d_Crossed.qual d_Crossed.params d_Crossed.body d_Crossed.scope (d_Crossed.dvs K) (d_Crossed.kws K) (He.fAd K d_Crossed.at_) fd) : FnOk P w K mg base (CXn P w) 1 (He.fAd K d_Crossed.at_) fd ["self", "which"] (spIni K "which") := by
  obtain ⟨r, vV⟩ := E.base_ 17 (x := "AskedError") rfl
  exact ini_ok 0 F sc_Crossed (.inl rfl) (.inl rfl) rfl rfl (fun cdv A outer s H EE => pe_oini (B := "AskedError") rfl (gE E (by decide +kernel)) r vV (pa_cons (pv 0) (pa_cons pe_str pa_nil))) (fun _ _ _ _ _ _ => rfl) (fun _ _ _ _ _ _ => rfl)
theorem sc_Wanting : FnScope ["self", "ends"] ["self", "ends"] (defScope s_Wanting) := ⟨rfl, rfl, rfl, by decide +kernel, rfl, by decide +kernel, by decide +kernel⟩
theorem ini_Wanting (E : Ms.Env fb fn K mg base) {fd : FuncData} (F : FunD K d_Wanting.name d_Wanting.qual d_Wanting.params d_Wanting.body d_Wanting.scope (d_Wanting.dvs K) (d_Wanting.kws K) (He.fAd K d_Wanting.at_) fd) : FnOk P w K mg base (CXn P w) 1 (He.fAd K d_Wanting.at_) fd ["self", "ends"] (spIni K "ends") := by
  obtain ⟨r, vV⟩ := E.base_ 17 (x := "AskedError") rfl
  exact ini_ok 0 F sc_Wanting (.inl rfl) (.inl rfl) rfl rfl (fun cdv A outer s H EE => pe_oini (B := "AskedError") rfl (gE E (by decide +kernel)) r vV (pa_cons (pv 0) (pa_cons pe_str pa_nil))) (fun _ _ _ _ _ _ => rfl) (fun _ _ _ _ _ _ => rfl)
theorem sc_NoWork : FnScope ["self", "work"] ["self", "work"] (defScope s_NoWork) := ⟨rfl, rfl, rfl, by decide +kernel, rfl, by decide +kernel, by decide +kernel⟩
theorem ini_NoWork (E : Ms.Env fb fn K mg base) {fd : FuncData} (F : FunD K d_NoWork.name d_NoWork.qual d_NoWork.params d_NoWork.body d_NoWork.scope (d_NoWork.dvs K) (d_NoWork.kws K) (He.fAd K d_NoWork.at_) fd) : FnOk P w K mg base (CXn P w) 1 (He.fAd K d_NoWork.at_) fd ["self", "work"] (spIni K "work") := by
  obtain ⟨r, vV⟩ := E.base_ 17 (x := "AskedError") rfl
  exact ini_ok 0 F sc_NoWork (.inl rfl) (.inl rfl) rfl rfl (fun cdv A outer s H EE => pe_oini (B := "AskedError") rfl (gE E (by decide +kernel)) r vV (pa_cons (pv 0) (pa_cons pe_str pa_nil))) (fun _ _ _ _ _ _ => rfl) (fun _ _ _ _ _ _ => rfl)
theorem sc_NoVersion : FnScope ["self", "which"] ["self", "which"] (defScope s_NoVersion) := ⟨rfl, rfl, rfl, by decide +kernel, rfl, by decide +kernel, by decide +kernel⟩
theorem ini_NoVersion (E : Ms.Env fb fn K mg base) {fd : FuncData} (F : FunD K d_NoVersion.name d_NoVersion.qual d_NoVersion.params d_NoVersion.body d_NoVersion.scope (d_NoVersion.dvs K) (d_NoVersion.kws K) (He.fAd K d_NoVersion.at_) fd) : FnOk P w K mg base (CXn P w) 1 (He.fAd K d_NoVersion.at_) fd ["self", "which"] (spIni K "which") := by
  obtain ⟨r, vV⟩ := E.base_ 17 (x := "AskedError") rfl
  exact ini_ok 0 F sc_NoVersion (.inl rfl) (.inl rfl) rfl rfl (fun cdv A outer s H EE => pe_oini (B := "AskedError") rfl (gE E (by decide +kernel)) r vV (pa_cons (pv 0) (pa_cons pe_str pa_nil))) (fun _ _ _ _ _ _ => rfl) (fun _ _ _ _ _ _ => rfl)
theorem sc_NoAuthor : FnScope ["self", "name"] ["self", "name"] (defScope s_NoAuthor) := ⟨rfl, rfl, rfl, by decide +kernel, rfl, by decide +kernel, by decide +kernel⟩
theorem ini_NoAuthor (E : Ms.Env fb fn K mg base) {fd : FuncData} (F : FunD K d_NoAuthor.name d_NoAuthor.qual d_NoAuthor.params d_NoAuthor.body d_NoAuthor.scope (d_NoAuthor.dvs K) (d_NoAuthor.kws K) (He.fAd K d_NoAuthor.at_) fd) : FnOk P w K mg base (CXn P w) 1 (He.fAd K d_NoAuthor.at_) fd ["self", "name"] (spIni K "name") := by
  obtain ⟨r, vV⟩ := E.base_ 17 (x := "AskedError") rfl
  exact ini_ok 0 F sc_NoAuthor (.inl rfl) (.inl rfl) rfl rfl (fun cdv A outer s H EE => pe_oini (B := "AskedError") rfl (gE E (by decide +kernel)) r vV (pa_cons (pv 0) (pa_cons pe_str pa_nil))) (fun _ _ _ _ _ _ => rfl) (fun _ _ _ _ _ _ => rfl)
/-! ### is_whole -/
def N_is_whole : List Str := ["thing"]
theorem sc_is_whole : FnScope N_is_whole ["thing"] (defScope s_is_whole) := ⟨rfl, rfl, rfl, by decide +kernel, rfl, by decide +kernel, by decide +kernel⟩
def b_is_whole : M Fl := (M.ret (M.andV (M.isI kf_int (M.var 0)) (M.notV (M.isI kf_bool (M.var 0)))))
def m_is_whole : Fn := runFn 1 1 b_is_whole
theorem bd_is_whole (E : Ms.Env fb fn K mg base) {fa : Addr} {cdv : Value} {A : Around} {outer : List PySem.Env} {s : Shared} {H : Hp} {EE : XK} (hr : Room 0 (XB P w K mg base N_is_whole "is_whole" (defScope s_is_whole) fa cdv A outer s H EE).A) (tk : L2N.Takes (XB P w K mg base N_is_whole "is_whole" (defScope s_is_whole) fa cdv A outer s H EE) (WB EE)) : PSs (XB P w K mg base N_is_whole "is_whole" (defScope s_is_whole) fa cdv A outer s H EE) (defBody s_is_whole) (tDS (RC0 K mg) (WB EE) b_is_whole) :=
  (ds_one (ds_ret (d_and (d_isI (by rfl) (fE E (by decide +kernel)) (d_var 0 (pv 0)) (pe_bltn (v := .ty "int") (by rfl) (fE E (by decide +kernel)) PyProof.Rows.Boot.«int» (by rfl)) (.ty _) (kt_int E)) (d_one (d_not (d_isI (by rfl) (fE E (by decide +kernel)) (d_var 0 (pv 0)) (pe_bltn (v := .ty "bool") (by rfl) (fE E (by decide +kernel)) PyProof.Rows.Boot.«bool» (by rfl)) (.ty _) (kt_bool E)))))))
theorem ok_is_whole (E : Ms.Env fb fn K mg base) : Def P w K mg base "is_whole" 1 1 m_is_whole := by
  obtain ⟨fd, F⟩ := E.c.def_ 9 (d := d_is_whole) rfl
  exact ⟨fun ds G h => runFn_len ds G h, He.ga K "is_whole", fd, ["thing"], fnD F sc_is_whole (by decide) (fun cdv A outer s H EE hr tk => bd_is_whole E hr tk), (gE E (by decide +kernel)), F.kp, FunD.bindsN (ps := ["thing"]) F fun _ _ _ _ _ _ us hl => match us, hl with | [_], _ => rfl⟩
/-! ### is_name -/
def N_is_name : List Str := ["thing", "sign"]
theorem sc_is_name : FnScope N_is_name ["thing"] (defScope s_is_name) := ⟨rfl, rfl, rfl, by decide +kernel, rfl, by decide +kernel, by decide +kernel⟩
def c_is_name_0 : M (List D) := (M.comp [1] (M.items (M.var 0)) (.one 1) (pure true) (M.op2 (fIn false) (M.var 1) (M.lit (.str "abcdefghijklmnopqrstuvwxyz"))))
def b_is_name : M Fl := (M.ret (M.andV (M.isI kf_str (M.var 0)) (M.andV (M.chain (fInt gLe) (fInt gLe) (M.lit (.int 1)) (M.op1 fLen (M.var 0)) (M.lit (.int 8))) (M.op1 fAll (M.lst c_is_name_0)))))
def m_is_name : Fn := runFn 2 1 b_is_name
theorem bd_is_name (E : Ms.Env fb fn K mg base) {fa : Addr} {cdv : Value} {A : Around} {outer : List PySem.Env} {s : Shared} {H : Hp} {EE : XK} (hr : Room 0 (XB P w K mg base N_is_name "is_name" (defScope s_is_name) fa cdv A outer s H EE).A) (tk : L2N.Takes (XB P w K mg base N_is_name "is_name" (defScope s_is_name) fa cdv A outer s H EE) (WB EE)) : PSs (XB P w K mg base N_is_name "is_name" (defScope s_is_name) fa cdv A outer s H EE) (defBody s_is_name) (tDS (RC0 K mg) (WB EE) b_is_name) :=
  (ds_one (ds_ret (d_and (d_isI (by rfl) (fE E (by decide +kernel)) (d_var 0 (pv 0)) (pe_bltn (v := .ty "str") (by rfl) (fE E (by decide +kernel)) PyProof.Rows.Boot.«str» (by rfl)) (.ty _) (kt_str E)) (d_and (d_chain cLe cLe d_int (d_blt1 len_ok call_len (by rfl) (fE E (by decide +kernel)) PyProof.Rows.Boot.«len» (d_var 0 (pv 0))) d_int) (d_one (d_blt1 all_ok (cr_all rfl) (by rfl) (fE E (by decide +kernel)) PyProof.Rows.Boot.«all» (d_fr (df_comp (own := [("sign", 1)]) rfl sc_is_name.nd (di_val (d_var 0 (pv 0))) (by show BlkOk N_is_name (defScope s_is_name) _ _; exact ⟨rfl, by decide +kernel, by decide +kernel, by decide +kernel, by decide +kernel⟩) rfl (fun _ _ _ _ _ => (tg_one sc_is_name.nd rfl (locOf rfl))) (fun _ _ _ _ _ => dts_nil) (fun _ _ _ _ _ => (d_cmp (cIn (by exact rmOf hr)) (d_var 1 (pv 1)) (d_gS (by rfl) (gc_LETTERS E)) rfl))))))))))
theorem ok_is_name (E : Ms.Env fb fn K mg base) : Def P w K mg base "is_name" 1 1 m_is_name := by
  obtain ⟨fd, F⟩ := E.c.def_ 11 (d := d_is_name) rfl
  exact ⟨fun ds G h => runFn_len ds G h, He.ga K "is_name", fd, ["thing"], fnD F sc_is_name (by decide) (fun cdv A outer s H EE hr tk => bd_is_name E hr tk), (gE E (by decide +kernel)), F.kp, FunD.bindsN (ps := ["thing"]) F fun _ _ _ _ _ _ us hl => match us, hl with | [_], _ => rfl⟩
/-! ### go_on -/
def N_go_on : List Str := ["one", "other"]
theorem sc_go_on : FnScope N_go_on ["one", "other"] (defScope s_go_on) := ⟨rfl, rfl, rfl, by decide +kernel, rfl, by decide +kernel, by decide +kernel⟩
def b_go_on : M Fl := (M.ret (M.andV (M.op2 fEq (M.op2 fIx (M.var 0) (M.lit (.int 0))) (M.op2 fIx (M.var 1) (M.lit (.int 0)))) (M.op2 fEq (M.op2 fIx (M.var 0) (M.lit (.int 2))) (M.op2 fIx (M.var 1) (M.lit (.int 1))))))
def m_go_on : Fn := runFn 2 2 b_go_on
theorem bd_go_on (E : Ms.Env fb fn K mg base) {fa : Addr} {cdv : Value} {A : Around} {outer : List PySem.Env} {s : Shared} {H : Hp} {EE : XK} (hr : Room 0 (XB P w K mg base N_go_on "go_on" (defScope s_go_on) fa cdv A outer s H EE).A) (tk : L2N.Takes (XB P w K mg base N_go_on "go_on" (defScope s_go_on) fa cdv A outer s H EE) (WB EE)) : PSs (XB P w K mg base N_go_on "go_on" (defScope s_go_on) fa cdv A outer s H EE) (defBody s_go_on) (tDS (RC0 K mg) (WB EE) b_go_on) :=
  (ds_one (ds_ret (d_and (d_cmp (cEq (by exact rmOf hr)) (d_ix (by exact rmOf hr) (d_var 0 (pv 0)) d_int (fun _ _ => rfl)) (d_ix (by exact rmOf hr) (d_var 1 (pv 1)) d_int (fun _ _ => rfl)) rfl) (d_one (d_cmp (cEq (by exact rmOf hr)) (d_ix (by exact rmOf hr) (d_var 0 (pv 0)) d_int (fun _ _ => rfl)) (d_ix (by exact rmOf hr) (d_var 1 (pv 1)) d_int (fun _ _ => rfl)) rfl)))))
theorem ok_go_on (E : Ms.Env fb fn K mg base) : Def P w K mg base "go_on" 1 2 m_go_on := by
  obtain ⟨fd, F⟩ := E.c.def_ 13 (d := d_go_on) rfl
  exact ⟨fun ds G h => runFn_len ds G h, He.ga K "go_on", fd, ["one", "other"], fnD F sc_go_on (by decide) (fun cdv A outer s H EE hr tk => bd_go_on E hr tk), (gE E (by decide +kernel)), F.kp, FunD.bindsN (ps := ["one", "other"]) F fun _ _ _ _ _ _ us hl => match us, hl with | [_, _], _ => rfl⟩
/-! ### long -/
def N_long : List Str := ["page", "author", "first", "last"]
theorem sc_long : FnScope N_long ["page"] (defScope s_long) := ⟨rfl, rfl, rfl, by decide +kernel, rfl, by decide +kernel, by decide +kernel⟩
def c_long_0 : M (List D) := (M.comp [1, 2, 3] (M.items (M.var 0)) (.many [1, 2, 3]) (pure true) (M.op2 (fInt gSub) (M.var 3) (M.var 2)))
def b_long : M Fl := (M.ret (M.op1 fSum (M.lst c_long_0)))
def m_long : Fn := runFn 4 1 b_long
theorem bd_long (E : Ms.Env fb fn K mg base) {fa : Addr} {cdv : Value} {A : Around} {outer : List PySem.Env} {s : Shared} {H : Hp} {EE : XK} (hr : Room 0 (XB P w K mg base N_long "long" (defScope s_long) fa cdv A outer s H EE).A) (tk : L2N.Takes (XB P w K mg base N_long "long" (defScope s_long) fa cdv A outer s H EE) (WB EE)) : PSs (XB P w K mg base N_long "long" (defScope s_long) fa cdv A outer s H EE) (defBody s_long) (tDS (RC0 K mg) (WB EE) b_long) :=
  (ds_one (ds_ret (d_blt1 sum_ok (cr_sum rfl) (by rfl) (fE E (by decide +kernel)) PyProof.Rows.Boot.«sum» (d_fr (df_comp (own := [("author", 1), ("first", 2), ("last", 3)]) rfl sc_long.nd (di_val (d_var 0 (pv 0))) (by show BlkOk N_long (defScope s_long) _ _; exact ⟨rfl, by decide +kernel, by decide +kernel, by decide +kernel, by decide +kernel⟩) rfl (fun _ _ _ _ _ => (pg_tup rfl (tgs_cons (tg_one sc_long.nd rfl (locOf rfl)) (tgs_cons (tg_one sc_long.nd rfl (locOf rfl)) (tgs_cons (tg_one sc_long.nd rfl (locOf rfl)) tgs_nil))))) (fun _ _ _ _ _ => dts_nil) (fun _ _ _ _ _ => (d_sub (d_var 3 (pv 3)) (d_var 2 (pv 2)))))))))
theorem ok_long (E : Ms.Env fb fn K mg base) : Def P w K mg base "long" 1 1 m_long := by
  obtain ⟨fd, F⟩ := E.c.def_ 14 (d := d_long) rfl
  exact ⟨fun ds G h => runFn_len ds G h, He.ga K "long", fd, ["page"], fnD F sc_long (by decide) (fun cdv A outer s H EE hr tk => bd_long E hr tk), (gE E (by decide +kernel)), F.kp, FunD.bindsN (ps := ["page"]) F fun _ _ _ _ _ _ us hl => match us, hl with | [_], _ => rfl⟩
/-! ### is_apart -/
def N_is_apart : List Str := ["one", "other"]
theorem sc_is_apart : FnScope N_is_apart ["one", "other"] (defScope s_is_apart) := ⟨rfl, rfl, rfl, by decide +kernel, rfl, by decide +kernel, by decide +kernel⟩
def b_is_apart : M Fl := (M.ret (M.orV (M.op2 fLt (M.op2 fIx (M.var 0) (M.lit (.int 0))) (M.op2 fIx (M.var 1) (M.lit (.int 0)))) (M.andV (M.op2 fEq (M.op2 fIx (M.var 0) (M.lit (.int 0))) (M.op2 fIx (M.var 1) (M.lit (.int 0)))) (M.op2 fLt (M.op2 fIx (M.var 0) (M.lit (.int 2))) (M.op2 fIx (M.var 1) (M.lit (.int 1)))))))
def m_is_apart : Fn := runFn 2 2 b_is_apart
theorem bd_is_apart (E : Ms.Env fb fn K mg base) {fa : Addr} {cdv : Value} {A : Around} {outer : List PySem.Env} {s : Shared} {H : Hp} {EE : XK} (hr : Room 0 (XB P w K mg base N_is_apart "is_apart" (defScope s_is_apart) fa cdv A outer s H EE).A) (tk : L2N.Takes (XB P w K mg base N_is_apart "is_apart" (defScope s_is_apart) fa cdv A outer s H EE) (WB EE)) : PSs (XB P w K mg base N_is_apart "is_apart" (defScope s_is_apart) fa cdv A outer s H EE) (defBody s_is_apart) (tDS (RC0 K mg) (WB EE) b_is_apart) :=
  (ds_one (ds_ret (d_or (d_cmp (cLt (by exact rmOf hr)) (d_ix (by exact rmOf hr) (d_var 0 (pv 0)) d_int (fun _ _ => rfl)) (d_ix (by exact rmOf hr) (d_var 1 (pv 1)) d_int (fun _ _ => rfl)) rfl) (d_one (d_and (d_cmp (cEq (by exact rmOf hr)) (d_ix (by exact rmOf hr) (d_var 0 (pv 0)) d_int (fun _ _ => rfl)) (d_ix (by exact rmOf hr) (d_var 1 (pv 1)) d_int (fun _ _ => rfl)) rfl) (d_one (d_cmp (cLt (by exact rmOf hr)) (d_ix (by exact rmOf hr) (d_var 0 (pv 0)) d_int (fun _ _ => rfl)) (d_ix (by exact rmOf hr) (d_var 1 (pv 1)) d_int (fun _ _ => rfl)) rfl)))))))
theorem ok_is_apart (E : Ms.Env fb fn K mg base) : Def P w K mg base "is_apart" 1 2 m_is_apart := by
  obtain ⟨fd, F⟩ := E.c.def_ 16 (d := d_is_apart) rfl
  exact ⟨fun ds G h => runFn_len ds G h, He.ga K "is_apart", fd, ["one", "other"], fnD F sc_is_apart (by decide) (fun cdv A outer s H EE hr tk => bd_is_apart E hr tk), (gE E (by decide +kernel)), F.kp, FunD.bindsN (ps := ["one", "other"]) F fun _ _ _ _ _ _ us hl => match us, hl with | [_, _], _ => rfl⟩
/-! ### is_sign -/
def N_is_sign : List Str := ["sign"]
theorem sc_is_sign : FnScope N_is_sign ["sign"] (defScope s_is_sign) := ⟨rfl, rfl, rfl, by decide +kernel, rfl, by decide +kernel, by decide +kernel⟩
def b_is_sign : M Fl := (M.ret (M.andV (M.chain (fInt gLe) (fInt gLe) (M.lit (.int 32)) (M.op1 (sc1 gOrd) (M.var 0)) (M.lit (.int 126))) (M.op2 fNe (M.op1 (sc1 gOrd) (M.var 0)) (M.lit (.int 37)))))
def m_is_sign : Fn := runFn 1 1 b_is_sign
theorem bd_is_sign (E : Ms.Env fb fn K mg base) {fa : Addr} {cdv : Value} {A : Around} {outer : List PySem.Env} {s : Shared} {H : Hp} {EE : XK} (hr : Room 0 (XB P w K mg base N_is_sign "is_sign" (defScope s_is_sign) fa cdv A outer s H EE).A) (tk : L2N.Takes (XB P w K mg base N_is_sign "is_sign" (defScope s_is_sign) fa cdv A outer s H EE) (WB EE)) : PSs (XB P w K mg base N_is_sign "is_sign" (defScope s_is_sign) fa cdv A outer s H EE) (defBody s_is_sign) (tDS (RC0 K mg) (WB EE) b_is_sign) :=
  (ds_one (ds_ret (d_and (d_chain cLe cLe (d_gI (by rfl) (gc_FIRST_SIGN E)) (d_blt1 ord_ok1 call_ord (by rfl) (fE E (by decide +kernel)) PyProof.Rows.Boot.«ord» (d_var 0 (pv 0))) (d_gI (by rfl) (gc_LAST_SIGN E))) (d_one (d_cmp (cNe (by exact rmOf hr)) (d_blt1 ord_ok1 call_ord (by rfl) (fE E (by decide +kernel)) PyProof.Rows.Boot.«ord» (d_var 0 (pv 0))) d_int rfl)))))
theorem ok_is_sign (E : Ms.Env fb fn K mg base) : Def P w K mg base "is_sign" 1 1 m_is_sign := by
  obtain ⟨fd, F⟩ := E.c.def_ 19 (d := d_is_sign) rfl
  exact ⟨fun ds G h => runFn_len ds G h, He.ga K "is_sign", fd, ["sign"], fnD F sc_is_sign (by decide) (fun cdv A outer s H EE hr tk => bd_is_sign E hr tk), (gE E (by decide +kernel)), F.kp, FunD.bindsN (ps := ["sign"]) F fun _ _ _ _ _ _ us hl => match us, hl with | [_], _ => rfl⟩
/-! ### number_of -/
def N_number_of : List Str := ["word", "sign"]
theorem sc_number_of : FnScope N_number_of ["word"] (defScope s_number_of) := ⟨rfl, rfl, rfl, by decide +kernel, rfl, by decide +kernel, by decide +kernel⟩
def c_number_of_0 : M (List D) := (M.comp [1] (M.items (M.var 0)) (.one 1) (pure true) (M.op2 (fIn false) (M.var 1) (M.lit (.str "0123456789"))))
def b_number_of : M Fl := (M.seq (M.cond (M.or2 (M.not (M.bool (M.chain (fInt gLe) (fInt gLe) (M.lit (.int 1)) (M.op1 fLen (M.var 0)) (M.lit (.int 7))))) (M.not (M.truth (M.op1 fAll (M.lst c_number_of_0)))))
  (M.ret (M.lit .non))
  (pure .nx))
  (M.ret (M.ite (M.and2 (M.bool (M.op2 fEq (M.op2 fIx (M.var 0) (M.lit (.int 0))) (M.lit (.str "0")))) (M.bool (M.op2 fNe (M.var 0) (M.lit (.str "0"))))) (M.lit .non) (M.op1 (sc1 gIntS) (M.var 0)))))
def m_number_of : Fn := runFn 2 1 b_number_of
theorem bd_number_of (E : Ms.Env fb fn K mg base) {fa : Addr} {cdv : Value} {A : Around} {outer : List PySem.Env} {s : Shared} {H : Hp} {EE : XK} (hr : Room 0 (XB P w K mg base N_number_of "number_of" (defScope s_number_of) fa cdv A outer s H EE).A) (tk : L2N.Takes (XB P w K mg base N_number_of "number_of" (defScope s_number_of) fa cdv A outer s H EE) (WB EE)) : PSs (XB P w K mg base N_number_of "number_of" (defScope s_number_of) fa cdv A outer s H EE) (defBody s_number_of) (tDS (RC0 K mg) (WB EE) b_number_of) :=
  (ds_cons (ds_if (PW.pt (dw_or (dt_not (dt_chain cLe cLe d_int (d_blt1 len_ok call_len (by rfl) (fE E (by decide +kernel)) PyProof.Rows.Boot.«len» (d_var 0 (pv 0))) (d_gI (by rfl) (gc_MOST_FIGURES E)))) (dw_or1 (dt_not (dt_truth (d_blt1 all_ok (cr_all rfl) (by rfl) (fE E (by decide +kernel)) PyProof.Rows.Boot.«all» (d_fr (df_comp (own := [("sign", 1)]) rfl sc_number_of.nd (di_val (d_var 0 (pv 0))) (by show BlkOk N_number_of (defScope s_number_of) _ _; exact ⟨rfl, by decide +kernel, by decide +kernel, by decide +kernel, by decide +kernel⟩) rfl (fun _ _ _ _ _ => (tg_one sc_number_of.nd rfl (locOf rfl))) (fun _ _ _ _ _ => dts_nil) (fun _ _ _ _ _ => (d_cmp (cIn (by exact rmOf hr)) (d_var 1 (pv 1)) (d_gS (by rfl) (gc_FIGURES E)) rfl))))))))))
  (ds_one (ds_ret d_non))
  ds_nil)
  (ds_one (ds_ret (d_if (PW.pt (dw_and (dt_cmp (cEq (by exact rmOf hr)) (d_ix (by exact rmOf hr) (d_var 0 (pv 0)) d_int (fun _ _ => rfl)) d_str rfl) (dw_and1 (dt_cmp (cNe (by exact rmOf hr)) (d_var 0 (pv 0)) d_str rfl)))) d_non (d_bltT1 intS_ok (call_int1.or call_int_str) (by rfl) (fE E (by decide +kernel)) PyProof.Rows.Boot.«int» (d_var 0 (pv 0)))))))
theorem ok_number_of (E : Ms.Env fb fn K mg base) : Def P w K mg base "number_of" 1 1 m_number_of := by
  obtain ⟨fd, F⟩ := E.c.def_ 26 (d := d_number_of) rfl
  exact ⟨fun ds G h => runFn_len ds G h, He.ga K "number_of", fd, ["word"], fnD F sc_number_of (by decide) (fun cdv A outer s H EE hr tk => bd_number_of E hr tk), (gE E (by decide +kernel)), F.kp, FunD.bindsN (ps := ["word"]) F fun _ _ _ _ _ _ us hl => match us, hl with | [_], _ => rfl⟩
/-! ### spans_text -/
def N_spans_text : List Str := ["spans", "author", "first", "last"]
theorem sc_spans_text : FnScope N_spans_text ["spans"] (defScope s_spans_text) := ⟨rfl, rfl, rfl, by decide +kernel, rfl, by decide +kernel, by decide +kernel⟩
def c_spans_text_0 : M (List D) := (M.comp [1, 2, 3] (M.items (M.var 0)) (.many [1, 2, 3]) (pure true) (M.js [(M.op1 (sc1 gFmt) (M.var 1)), (M.lit (.str ":")), (M.op1 (sc1 gFmt) (M.var 2)), (M.lit (.str "-")), (M.op1 (sc1 gFmt) (M.var 3))] Str.empty))
def b_spans_text : M Fl := (M.ret (M.orV (M.join (M.lit (.str ",")) (M.lst c_spans_text_0)) (M.lit (.str "-"))))
def m_spans_text : Fn := runFn 4 1 b_spans_text
theorem bd_spans_text (E : Ms.Env fb fn K mg base) {fa : Addr} {cdv : Value} {A : Around} {outer : List PySem.Env} {s : Shared} {H : Hp} {EE : XK} (hr : Room 0 (XB P w K mg base N_spans_text "spans_text" (defScope s_spans_text) fa cdv A outer s H EE).A) (tk : L2N.Takes (XB P w K mg base N_spans_text "spans_text" (defScope s_spans_text) fa cdv A outer s H EE) (WB EE)) : PSs (XB P w K mg base N_spans_text "spans_text" (defScope s_spans_text) fa cdv A outer s H EE) (defBody s_spans_text) (tDS (RC0 K mg) (WB EE) b_spans_text) :=
  (ds_one (ds_ret (d_or (d_join d_str (d_fr (df_comp (own := [("author", 1), ("first", 2), ("last", 3)]) rfl sc_spans_text.nd (di_val (d_var 0 (pv 0))) (by show BlkOk N_spans_text (defScope s_spans_text) _ _; exact ⟨rfl, by decide +kernel, by decide +kernel, by decide +kernel, by decide +kernel⟩) rfl (fun _ _ _ _ _ => (pg_tup rfl (tgs_cons (tg_one sc_spans_text.nd rfl (locOf rfl)) (tgs_cons (tg_one sc_spans_text.nd rfl (locOf rfl)) (tgs_cons (tg_one sc_spans_text.nd rfl (locOf rfl)) tgs_nil))))) (fun _ _ _ _ _ => dts_nil) (fun _ _ _ _ _ => (d_joined (.cons (d_fmt (d_var 1 (pv 1))) (.cons d_str (.cons (d_fmt (d_var 2 (pv 2))) (.cons d_str (.cons (d_fmt (d_var 3 (pv 3))) .nil)))))))))) (d_one (d_gS (by rfl) (gc_NONE E))))))
theorem ok_spans_text (E : Ms.Env fb fn K mg base) : Def P w K mg base "spans_text" 1 1 m_spans_text := by
  obtain ⟨fd, F⟩ := E.c.def_ 27 (d := d_spans_text) rfl
  exact ⟨fun ds G h => runFn_len ds G h, He.ga K "spans_text", fd, ["spans"], fnD F sc_spans_text (by decide) (fun cdv A outer s H EE hr tk => bd_spans_text E hr tk), (gE E (by decide +kernel)), F.kp, FunD.bindsN (ps := ["spans"]) F fun _ _ _ _ _ _ us hl => match us, hl with | [_], _ => rfl⟩
/-! ### id_text -/
def N_id_text : List Str := ["which"]
theorem sc_id_text : FnScope N_id_text ["which"] (defScope s_id_text) := ⟨rfl, rfl, rfl, by decide +kernel, rfl, by decide +kernel, by decide +kernel⟩
def b_id_text : M Fl := (M.ret (M.js [(M.op1 (sc1 gFmt) (M.op2 fIx (M.var 0) (M.lit (.int 0)))), (M.lit (.str ".")), (M.op1 (sc1 gFmt) (M.op2 fIx (M.var 0) (M.lit (.int 1))))] Str.empty))
def m_id_text : Fn := runFn 1 1 b_id_text
theorem bd_id_text (E : Ms.Env fb fn K mg base) {fa : Addr} {cdv : Value} {A : Around} {outer : List PySem.Env} {s : Shared} {H : Hp} {EE : XK} (hr : Room 0 (XB P w K mg base N_id_text "id_text" (defScope s_id_text) fa cdv A outer s H EE).A) (tk : L2N.Takes (XB P w K mg base N_id_text "id_text" (defScope s_id_text) fa cdv A outer s H EE) (WB EE)) : PSs (XB P w K mg base N_id_text "id_text" (defScope s_id_text) fa cdv A outer s H EE) (defBody s_id_text) (tDS (RC0 K mg) (WB EE) b_id_text) :=
  (ds_one (ds_ret (d_joined (.cons (d_fmt (d_ix (by exact rmOf hr) (d_var 0 (pv 0)) d_int (fun _ _ => rfl))) (.cons d_str (.cons (d_fmt (d_ix (by exact rmOf hr) (d_var 0 (pv 0)) d_int (fun _ _ => rfl))) .nil))))))
theorem ok_id_text (E : Ms.Env fb fn K mg base) : Def P w K mg base "id_text" 1 1 m_id_text := by
  obtain ⟨fd, F⟩ := E.c.def_ 28 (d := d_id_text) rfl
  exact ⟨fun ds G h => runFn_len ds G h, He.ga K "id_text", fd, ["which"], fnD F sc_id_text (by decide) (fun cdv A outer s H EE hr tk => bd_id_text E hr tk), (gE E (by decide +kernel)), F.kp, FunD.bindsN (ps := ["which"]) F fun _ _ _ _ _ _ us hl => match us, hl with | [_], _ => rfl⟩
/-! ### _law_bag -/
def N__law_bag : List Str := ["script", "k", "cell"]
theorem sc__law_bag : FnScope N__law_bag ["script", "k"] (defScope s__law_bag) := ⟨rfl, rfl, rfl, by decide +kernel, rfl, by decide +kernel, by decide +kernel⟩
def b__law_bag : M Fl := (M.seq (M.set 2 (M.lit (.int 0)))
  (M.seq (M.cond (M.bool (M.op2 fLt (M.var 1) (M.op1 fLen (M.var 0))))
  (M.set 2 (M.op1 (sc1 gAbs) (M.op2 fIx (M.var 0) (M.var 1))))
  (pure .nx))
  (M.seq (M.cond (M.bool (M.op2 fLt (M.var 2) (M.op2 (fInt gPow) (M.lit (.int 10)) (M.lit (.int 18)))))
  (M.ret (M.newL (M.disp [(M.lit (.int 0)), (M.op2 fAdd (M.lit (.int 1)) (M.op2 (fInt gMod) (M.op2 fAdd (M.op2 (fInt gMul) (M.var 2) (M.lit (.int 7919))) (M.op2 (fInt gMul) (M.lit (.int 104729)) (M.var 1))) (M.lit (.int 2147483646))))])))
  (pure .nx))
  (M.ret (M.newL (M.disp [(M.var 2), (M.op2 fAdd (M.lit (.int 1)) (M.op2 (fInt gMod) (M.op2 fAdd (M.var 2) (M.var 1)) (M.lit (.int 2147483646))))]))))))
def m__law_bag : Fn := runFn 3 2 b__law_bag
theorem bd__law_bag (E : Ms.Env fb fn K mg base) {fa : Addr} {cdv : Value} {A : Around} {outer : List PySem.Env} {s : Shared} {H : Hp} {EE : XK} (hr : Room 0 (XB P w K mg base N__law_bag "_law_bag" (defScope s__law_bag) fa cdv A outer s H EE).A) (tk : L2N.Takes (XB P w K mg base N__law_bag "_law_bag" (defScope s__law_bag) fa cdv A outer s H EE) (WB EE)) : PSs (XB P w K mg base N__law_bag "_law_bag" (defScope s__law_bag) fa cdv A outer s H EE) (defBody s__law_bag) (tDS (RC0 K mg) (WB EE) b__law_bag) :=
  (ds_cons (ds_set sc__law_bag.nd rfl (locOf rfl) d_int)
  (ds_cons (ds_if (dt_cmp (cLt (by exact rmOf hr)) (d_var 1 (pv 1)) (d_blt1 len_ok call_len (by rfl) (fE E (by decide +kernel)) PyProof.Rows.Boot.«len» (d_var 0 (pv 0))) rfl)
  (ds_one (ds_set sc__law_bag.nd rfl (locOf rfl) (d_blt1 abs_ok call_abs (by rfl) (fE E (by decide +kernel)) PyProof.Rows.Boot.«abs» (d_ix (by exact rmOf hr) (d_var 0 (pv 0)) (d_var 1 (pv 1)) (fun _ _ => rfl)))))
  ds_nil)
  (ds_cons (ds_if (dt_cmp (cLt (by exact rmOf hr)) (d_var 2 (pv 2)) (d_pow d_int d_int) rfl)
  (ds_one (ds_ret (d_newL (df_lst (da_cons d_int (da_cons (d_add d_int (d_mod (d_add (d_mul (d_var 2 (pv 2)) d_int) (d_mul d_int (d_var 1 (pv 1)))) d_int)) da_nil))))))
  ds_nil)
  (ds_one (ds_ret (d_newL (df_lst (da_cons (d_var 2 (pv 2)) (da_cons (d_add d_int (d_mod (d_add (d_var 2 (pv 2)) (d_var 1 (pv 1))) d_int)) da_nil)))))))))
theorem ok__law_bag (E : Ms.Env fb fn K mg base) : Def P w K mg base "_law_bag" 1 2 m__law_bag := by
  obtain ⟨fd, F⟩ := E.c.def_ 40 (d := d__law_bag) rfl
  exact ⟨fun ds G h => runFn_len ds G h, He.ga K "_law_bag", fd, ["script", "k"], fnD F sc__law_bag (by decide) (fun cdv A outer s H EE hr tk => bd__law_bag E hr tk), (gE E (by decide +kernel)), F.kp, FunD.bindsN (ps := ["script", "k"]) F fun _ _ _ _ _ _ us hl => match us, hl with | [_, _], _ => rfl⟩
/-! ### _law_take -/
def N__law_take : List Str := ["bag", "many", "found"]
theorem sc__law_take : FnScope N__law_take ["bag", "many"] (defScope s__law_take) := ⟨rfl, rfl, rfl, by decide +kernel, rfl, by decide +kernel, by decide +kernel⟩
def b__law_take : M Fl := (M.seq (M.cond (M.bool (M.op2 (fInt gGt) (M.op2 fIx (M.var 0) (M.lit (.int 0))) (M.lit (.int 0))))
  (M.seq (M.set 2 (M.op2 (fInt gMod) (M.op2 fIx (M.var 0) (M.lit (.int 0))) (M.var 1)))
  (M.seq (M.setIx (M.var 0) (M.lit (.int 0)) (M.op2 (fInt gDiv) (M.op2 fIx (M.var 0) (M.lit (.int 0))) (M.var 1)))
  (M.ret (M.var 2))))
  (pure .nx))
  (M.seq (M.setIx (M.var 0) (M.lit (.int 1)) (M.op2 (fInt gMod) (M.op2 (fInt gMul) (M.op2 fIx (M.var 0) (M.lit (.int 1))) (M.lit (.int 48271))) (M.lit (.int 2147483647))))
  (M.ret (M.op2 (fInt gMod) (M.op2 (fInt gDiv) (M.op2 (fInt gMod) (M.op2 (fInt gMul) (M.op2 fIx (M.var 0) (M.lit (.int 1))) (M.op2 fIx (M.var 0) (M.lit (.int 1)))) (M.lit (.int 2147483629))) (M.lit (.int 64))) (M.var 1)))))
def m__law_take : Fn := runFn 3 2 b__law_take
theorem bd__law_take (E : Ms.Env fb fn K mg base) {fa : Addr} {cdv : Value} {A : Around} {outer : List PySem.Env} {s : Shared} {H : Hp} {EE : XK} (hr : Room 0 (XB P w K mg base N__law_take "_law_take" (defScope s__law_take) fa cdv A outer s H EE).A) (tk : L2N.Takes (XB P w K mg base N__law_take "_law_take" (defScope s__law_take) fa cdv A outer s H EE) (WB EE)) : PSs (XB P w K mg base N__law_take "_law_take" (defScope s__law_take) fa cdv A outer s H EE) (defBody s__law_take) (tDS (RC0 K mg) (WB EE) b__law_take) :=
  (ds_cons (ds_if (dt_cmp cGt (d_ix (by exact rmOf hr) (d_var 0 (pv 0)) d_int (fun _ _ => rfl)) d_int rfl)
  (ds_cons (ds_set sc__law_take.nd rfl (locOf rfl) (d_mod (d_ix (by exact rmOf hr) (d_var 0 (pv 0)) d_int (fun _ _ => rfl)) (d_var 1 (pv 1))))
  (ds_cons (ds_setIx (d_fdiv (d_ix (by exact rmOf hr) (d_var 0 (pv 0)) d_int (fun _ _ => rfl)) (d_var 1 (pv 1))) (d_var 0 (pv 0)) d_int)
  (ds_one (ds_ret (d_var 2 (pv 2))))))
  ds_nil)
  (ds_cons (ds_setIx (d_mod (d_mul (d_ix (by exact rmOf hr) (d_var 0 (pv 0)) d_int (fun _ _ => rfl)) d_int) d_int) (d_var 0 (pv 0)) d_int)
  (ds_one (ds_ret (d_mod (d_fdiv (d_mod (d_mul (d_ix (by exact rmOf hr) (d_var 0 (pv 0)) d_int (fun _ _ => rfl)) (d_ix (by exact rmOf hr) (d_var 0 (pv 0)) d_int (fun _ _ => rfl))) d_int) d_int) (d_var 1 (pv 1)))))))
theorem ok__law_take (E : Ms.Env fb fn K mg base) : Def P w K mg base "_law_take" 1 2 m__law_take := by
  obtain ⟨fd, F⟩ := E.c.def_ 41 (d := d__law_take) rfl
  exact ⟨fun ds G h => runFn_len ds G h, He.ga K "_law_take", fd, ["bag", "many"], fnD F sc__law_take (by decide) (fun cdv A outer s H EE hr tk => bd__law_take E hr tk), (gE E (by decide +kernel)), F.kp, FunD.bindsN (ps := ["bag", "many"]) F fun _ _ _ _ _ _ us hl => match us, hl with | [_, _], _ => rfl⟩
/-! ### _law_kinds -/
def N__law_kinds : List Str := ["e", "some", "words", "k"]
theorem sc__law_kinds : FnScope N__law_kinds ["e"] (defScope s__law_kinds) := ⟨rfl, rfl, rfl, by decide +kernel, rfl, by decide +kernel, by decide +kernel⟩
def c__law_kinds_0 : M (List D) := (M.comp [3] (M.range1 [(M.lit (.int 23))]) (.one 3) (M.truth (M.op2 fIx (M.var 1) (M.var 3))) (M.op2 fIx (M.var 2) (M.var 3)))
def b__law_kinds : M Fl := (M.seq (M.set 1 (M.lst (M.disp [(M.isI kf_AskedError (M.var 0)), (M.isI kf_ToldError (M.var 0)), (M.isI kf_Crossed (M.var 0)), (M.isI kf_Forged (M.var 0))])))
  (M.seq (M.set 1 (M.op2 fAdd (M.var 1) (M.lst (M.disp [(M.isI kf_Gainsaid (M.var 0)), (M.isI kf_NoAuthor (M.var 0)), (M.isI kf_NoBase (M.var 0)), (M.isI kf_NoDeed (M.var 0))]))))
  (M.seq (M.set 1 (M.op2 fAdd (M.var 1) (M.lst (M.disp [(M.isI kf_NoEnd (M.var 0)), (M.isI kf_NoLink (M.var 0)), (M.isI kf_NoName (M.var 0)), (M.isI kf_NoPlace (M.var 0))]))))
  (M.seq (M.set 1 (M.op2 fAdd (M.var 1) (M.lst (M.disp [(M.isI kf_NoPrices (M.var 0)), (M.isI kf_NoRecord (M.var 0)), (M.isI kf_NoRow (M.var 0)), (M.isI kf_NoSigns (M.var 0))]))))
  (M.seq (M.set 1 (M.op2 fAdd (M.var 1) (M.lst (M.disp [(M.isI kf_NoText (M.var 0)), (M.isI kf_NoVersion (M.var 0)), (M.isI kf_NoWork (M.var 0)), (M.isI kf_TooLong (M.var 0))]))))
  (M.seq (M.set 1 (M.op2 fAdd (M.var 1) (M.lst (M.disp [(M.isI kf_Twice (M.var 0)), (M.isI kf_Wanting (M.var 0)), (M.isI kf_ValueError (M.var 0))]))))
  (M.seq (M.set 2 (M.lst (M.disp [(M.lit (.str "asked ")), (M.lit (.str "told ")), (M.lit (.str "Crossed")), (M.lit (.str "Forged")), (M.lit (.str "Gainsaid")), (M.lit (.str "NoAuthor")), (M.lit (.str "NoBase")), (M.lit (.str "NoDeed")), (M.lit (.str "NoEnd")), (M.lit (.str "NoLink"))])))
  (M.seq (M.set 2 (M.op2 fAdd (M.var 2) (M.lst (M.disp [(M.lit (.str "NoName")), (M.lit (.str "NoPlace")), (M.lit (.str "NoPrices")), (M.lit (.str "NoRecord")), (M.lit (.str "NoRow")), (M.lit (.str "NoSigns")), (M.lit (.str "NoText")), (M.lit (.str "NoVersion")), (M.lit (.str "NoWork"))]))))
  (M.seq (M.set 2 (M.op2 fAdd (M.var 2) (M.lst (M.disp [(M.lit (.str "TooLong")), (M.lit (.str "Twice")), (M.lit (.str "Wanting")), (M.lit (.str "+"))]))))
  (M.ret (M.join (M.lit (.str "")) (M.lst c__law_kinds_0))))))))))))
def m__law_kinds : Fn := runFn 4 1 b__law_kinds
theorem bd__law_kinds (E : Ms.Env fb fn K mg base) {fa : Addr} {cdv : Value} {A : Around} {outer : List PySem.Env} {s : Shared} {H : Hp} {EE : XK} (hr : Room 0 (XB P w K mg base N__law_kinds "_law_kinds" (defScope s__law_kinds) fa cdv A outer s H EE).A) (tk : L2N.Takes (XB P w K mg base N__law_kinds "_law_kinds" (defScope s__law_kinds) fa cdv A outer s H EE) (WB EE)) : PSs (XB P w K mg base N__law_kinds "_law_kinds" (defScope s__law_kinds) fa cdv A outer s H EE) (defBody s__law_kinds) (tDS (RC0 K mg) (WB EE) b__law_kinds) :=
  (ds_cons (ds_set sc__law_kinds.nd rfl (locOf rfl) (d_fr (df_lst (da_cons (d_isI (by rfl) (fE E (by decide +kernel)) (d_var 0 (pv 0)) (pe_glob (v := .ref (He.ga K "AskedError")) (by rfl) (gE E (by decide +kernel)) (by rfl)) (.own _) (kt_AskedError E)) (da_cons (d_isI (by rfl) (fE E (by decide +kernel)) (d_var 0 (pv 0)) (pe_glob (v := .ref (He.ga K "ToldError")) (by rfl) (gE E (by decide +kernel)) (by rfl)) (.own _) (kt_ToldError E)) (da_cons (d_isI (by rfl) (fE E (by decide +kernel)) (d_var 0 (pv 0)) (pe_glob (v := .ref (He.ga K "Crossed")) (by rfl) (gE E (by decide +kernel)) (by rfl)) (.own _) (kt_Crossed E)) (da_cons (d_isI (by rfl) (fE E (by decide +kernel)) (d_var 0 (pv 0)) (pe_glob (v := .ref (He.ga K "Forged")) (by rfl) (gE E (by decide +kernel)) (by rfl)) (.own _) (kt_Forged E)) da_nil)))))))
  (ds_cons (ds_set sc__law_kinds.nd rfl (locOf rfl) (d_add (d_var 1 (pv 1)) (d_fr (df_lst (da_cons (d_isI (by rfl) (fE E (by decide +kernel)) (d_var 0 (pv 0)) (pe_glob (v := .ref (He.ga K "Gainsaid")) (by rfl) (gE E (by decide +kernel)) (by rfl)) (.own _) (kt_Gainsaid E)) (da_cons (d_isI (by rfl) (fE E (by decide +kernel)) (d_var 0 (pv 0)) (pe_glob (v := .ref (He.ga K "NoAuthor")) (by rfl) (gE E (by decide +kernel)) (by rfl)) (.own _) (kt_NoAuthor E)) (da_cons (d_isI (by rfl) (fE E (by decide +kernel)) (d_var 0 (pv 0)) (pe_glob (v := .ref (He.ga K "NoBase")) (by rfl) (gE E (by decide +kernel)) (by rfl)) (.own _) (kt_NoBase E)) (da_cons (d_isI (by rfl) (fE E (by decide +kernel)) (d_var 0 (pv 0)) (pe_glob (v := .ref (He.ga K "NoDeed")) (by rfl) (gE E (by decide +kernel)) (by rfl)) (.own _) (kt_NoDeed E)) da_nil))))))))
  (ds_cons (ds_set sc__law_kinds.nd rfl (locOf rfl) (d_add (d_var 1 (pv 1)) (d_fr (df_lst (da_cons (d_isI (by rfl) (fE E (by decide +kernel)) (d_var 0 (pv 0)) (pe_glob (v := .ref (He.ga K "NoEnd")) (by rfl) (gE E (by decide +kernel)) (by rfl)) (.own _) (kt_NoEnd E)) (da_cons (d_isI (by rfl) (fE E (by decide +kernel)) (d_var 0 (pv 0)) (pe_glob (v := .ref (He.ga K "NoLink")) (by rfl) (gE E (by decide +kernel)) (by rfl)) (.own _) (kt_NoLink E)) (da_cons (d_isI (by rfl) (fE E (by decide +kernel)) (d_var 0 (pv 0)) (pe_glob (v := .ref (He.ga K "NoName")) (by rfl) (gE E (by decide +kernel)) (by rfl)) (.own _) (kt_NoName E)) (da_cons (d_isI (by rfl) (fE E (by decide +kernel)) (d_var 0 (pv 0)) (pe_glob (v := .ref (He.ga K "NoPlace")) (by rfl) (gE E (by decide +kernel)) (by rfl)) (.own _) (kt_NoPlace E)) da_nil))))))))
  (ds_cons (ds_set sc__law_kinds.nd rfl (locOf rfl) (d_add (d_var 1 (pv 1)) (d_fr (df_lst (da_cons (d_isI (by rfl) (fE E (by decide +kernel)) (d_var 0 (pv 0)) (pe_glob (v := .ref (He.ga K "NoPrices")) (by rfl) (gE E (by decide +kernel)) (by rfl)) (.own _) (kt_NoPrices E)) (da_cons (d_isI (by rfl) (fE E (by decide +kernel)) (d_var 0 (pv 0)) (pe_glob (v := .ref (He.ga K "NoRecord")) (by rfl) (gE E (by decide +kernel)) (by rfl)) (.own _) (kt_NoRecord E)) (da_cons (d_isI (by rfl) (fE E (by decide +kernel)) (d_var 0 (pv 0)) (pe_glob (v := .ref (He.ga K "NoRow")) (by rfl) (gE E (by decide +kernel)) (by rfl)) (.own _) (kt_NoRow E)) (da_cons (d_isI (by rfl) (fE E (by decide +kernel)) (d_var 0 (pv 0)) (pe_glob (v := .ref (He.ga K "NoSigns")) (by rfl) (gE E (by decide +kernel)) (by rfl)) (.own _) (kt_NoSigns E)) da_nil))))))))
  (ds_cons (ds_set sc__law_kinds.nd rfl (locOf rfl) (d_add (d_var 1 (pv 1)) (d_fr (df_lst (da_cons (d_isI (by rfl) (fE E (by decide +kernel)) (d_var 0 (pv 0)) (pe_glob (v := .ref (He.ga K "NoText")) (by rfl) (gE E (by decide +kernel)) (by rfl)) (.own _) (kt_NoText E)) (da_cons (d_isI (by rfl) (fE E (by decide +kernel)) (d_var 0 (pv 0)) (pe_glob (v := .ref (He.ga K "NoVersion")) (by rfl) (gE E (by decide +kernel)) (by rfl)) (.own _) (kt_NoVersion E)) (da_cons (d_isI (by rfl) (fE E (by decide +kernel)) (d_var 0 (pv 0)) (pe_glob (v := .ref (He.ga K "NoWork")) (by rfl) (gE E (by decide +kernel)) (by rfl)) (.own _) (kt_NoWork E)) (da_cons (d_isI (by rfl) (fE E (by decide +kernel)) (d_var 0 (pv 0)) (pe_glob (v := .ref (He.ga K "TooLong")) (by rfl) (gE E (by decide +kernel)) (by rfl)) (.own _) (kt_TooLong E)) da_nil))))))))
  (ds_cons (ds_set sc__law_kinds.nd rfl (locOf rfl) (d_add (d_var 1 (pv 1)) (d_fr (df_lst (da_cons (d_isI (by rfl) (fE E (by decide +kernel)) (d_var 0 (pv 0)) (pe_glob (v := .ref (He.ga K "Twice")) (by rfl) (gE E (by decide +kernel)) (by rfl)) (.own _) (kt_Twice E)) (da_cons (d_isI (by rfl) (fE E (by decide +kernel)) (d_var 0 (pv 0)) (pe_glob (v := .ref (He.ga K "Wanting")) (by rfl) (gE E (by decide +kernel)) (by rfl)) (.own _) (kt_Wanting E)) (da_cons (d_isI (by rfl) (fE E (by decide +kernel)) (d_var 0 (pv 0)) (pe_bltn (v := .ty "ValueError") (by rfl) (fE E (by decide +kernel)) PyProof.Rows.Boot.«ValueError» (by rfl)) (.ty _) (kt_ValueError E)) da_nil)))))))
  (ds_cons (ds_set sc__law_kinds.nd rfl (locOf rfl) (d_fr (df_lst (da_cons d_str (da_cons d_str (da_cons d_str (da_cons d_str (da_cons d_str (da_cons d_str (da_cons d_str (da_cons d_str (da_cons d_str (da_cons d_str da_nil)))))))))))))
  (ds_cons (ds_set sc__law_kinds.nd rfl (locOf rfl) (d_add (d_var 2 (pv 2)) (d_fr (df_lst (da_cons d_str (da_cons d_str (da_cons d_str (da_cons d_str (da_cons d_str (da_cons d_str (da_cons d_str (da_cons d_str (da_cons d_str da_nil)))))))))))))
  (ds_cons (ds_set sc__law_kinds.nd rfl (locOf rfl) (d_add (d_var 2 (pv 2)) (d_fr (df_lst (da_cons d_str (da_cons d_str (da_cons d_str (da_cons d_str da_nil))))))))
  (ds_one (ds_ret (d_join d_str (d_fr (df_comp (own := [("k", 3)]) rfl sc__law_kinds.nd (di_range1 (by rfl) (fE E (by decide +kernel)) (da_cons d_int da_nil)) (by show BlkOk N__law_kinds (defScope s__law_kinds) _ _; exact ⟨rfl, by decide +kernel, by decide +kernel, by decide +kernel, by decide +kernel⟩) rfl (fun _ _ _ _ _ => (tg_one sc__law_kinds.nd rfl (locOf rfl))) (fun _ _ _ _ _ => (dts_one (dt_truth (d_ix (by exact rmOf hr) (d_var 1 (pv 1)) (d_var 3 (pv 3)) (fun _ _ => rfl))))) (fun _ _ _ _ _ => (d_ix (by exact rmOf hr) (d_var 2 (pv 2)) (d_var 3 (pv 3)) (fun _ _ => rfl)))))))))))))))))
theorem ok__law_kinds (E : Ms.Env fb fn K mg base) : Def P w K mg base "_law_kinds" 1 1 m__law_kinds := by
  obtain ⟨fd, F⟩ := E.c.def_ 44 (d := d__law_kinds) rfl
  exact ⟨fun ds G h => runFn_len ds G h, He.ga K "_law_kinds", fd, ["e"], fnD F sc__law_kinds (by decide) (fun cdv A outer s H EE hr tk => bd__law_kinds E hr tk), (gE E (by decide +kernel)), F.kp, FunD.bindsN (ps := ["e"]) F fun _ _ _ _ _ _ us hl => match us, hl with | [_], _ => rfl⟩
theorem bh__law_kinds (E : Ms.Env fb fn K mg base) {fa : Addr} {cdv : Value} {A : Around} {outer : List PySem.Env} {s : Shared} {H : Hp} {EE : XK} {pp : Addr × Obj} (hot : L2H.Hot1 (XH P w K mg base N__law_kinds "_law_kinds" (defScope s__law_kinds) fa cdv A outer s H EE pp).A pp) (hr : L2H.RoomH 0 (XH P w K mg base N__law_kinds "_law_kinds" (defScope s__law_kinds) fa cdv A outer s H EE pp).A) (tk : L2N.Takes (XH P w K mg base N__law_kinds "_law_kinds" (defScope s__law_kinds) fa cdv A outer s H EE pp) (WB EE)) : PSs (XH P w K mg base N__law_kinds "_law_kinds" (defScope s__law_kinds) fa cdv A outer s H EE pp) (defBody s__law_kinds) (tDS (RCp K mg pp) (WB EE) b__law_kinds) :=
  (ds_cons (ds_set sc__law_kinds.nd rfl (locOf rfl) (d_fr (df_lst (da_cons (d_isI (by rfl) (fE E (by decide +kernel)) (d_var 0 (pv 0)) (pe_glob (v := .ref (He.ga K "AskedError")) (by rfl) (gE E (by decide +kernel)) (by rfl)) (.own _) (kt_AskedError E)) (da_cons (d_isI (by rfl) (fE E (by decide +kernel)) (d_var 0 (pv 0)) (pe_glob (v := .ref (He.ga K "ToldError")) (by rfl) (gE E (by decide +kernel)) (by rfl)) (.own _) (kt_ToldError E)) (da_cons (d_isI (by rfl) (fE E (by decide +kernel)) (d_var 0 (pv 0)) (pe_glob (v := .ref (He.ga K "Crossed")) (by rfl) (gE E (by decide +kernel)) (by rfl)) (.own _) (kt_Crossed E)) (da_cons (d_isI (by rfl) (fE E (by decide +kernel)) (d_var 0 (pv 0)) (pe_glob (v := .ref (He.ga K "Forged")) (by rfl) (gE E (by decide +kernel)) (by rfl)) (.own _) (kt_Forged E)) da_nil)))))))
  (ds_cons (ds_set sc__law_kinds.nd rfl (locOf rfl) (d_add (d_var 1 (pv 1)) (d_fr (df_lst (da_cons (d_isI (by rfl) (fE E (by decide +kernel)) (d_var 0 (pv 0)) (pe_glob (v := .ref (He.ga K "Gainsaid")) (by rfl) (gE E (by decide +kernel)) (by rfl)) (.own _) (kt_Gainsaid E)) (da_cons (d_isI (by rfl) (fE E (by decide +kernel)) (d_var 0 (pv 0)) (pe_glob (v := .ref (He.ga K "NoAuthor")) (by rfl) (gE E (by decide +kernel)) (by rfl)) (.own _) (kt_NoAuthor E)) (da_cons (d_isI (by rfl) (fE E (by decide +kernel)) (d_var 0 (pv 0)) (pe_glob (v := .ref (He.ga K "NoBase")) (by rfl) (gE E (by decide +kernel)) (by rfl)) (.own _) (kt_NoBase E)) (da_cons (d_isI (by rfl) (fE E (by decide +kernel)) (d_var 0 (pv 0)) (pe_glob (v := .ref (He.ga K "NoDeed")) (by rfl) (gE E (by decide +kernel)) (by rfl)) (.own _) (kt_NoDeed E)) da_nil))))))))
  (ds_cons (ds_set sc__law_kinds.nd rfl (locOf rfl) (d_add (d_var 1 (pv 1)) (d_fr (df_lst (da_cons (d_isI (by rfl) (fE E (by decide +kernel)) (d_var 0 (pv 0)) (pe_glob (v := .ref (He.ga K "NoEnd")) (by rfl) (gE E (by decide +kernel)) (by rfl)) (.own _) (kt_NoEnd E)) (da_cons (d_isI (by rfl) (fE E (by decide +kernel)) (d_var 0 (pv 0)) (pe_glob (v := .ref (He.ga K "NoLink")) (by rfl) (gE E (by decide +kernel)) (by rfl)) (.own _) (kt_NoLink E)) (da_cons (d_isI (by rfl) (fE E (by decide +kernel)) (d_var 0 (pv 0)) (pe_glob (v := .ref (He.ga K "NoName")) (by rfl) (gE E (by decide +kernel)) (by rfl)) (.own _) (kt_NoName E)) (da_cons (d_isI (by rfl) (fE E (by decide +kernel)) (d_var 0 (pv 0)) (pe_glob (v := .ref (He.ga K "NoPlace")) (by rfl) (gE E (by decide +kernel)) (by rfl)) (.own _) (kt_NoPlace E)) da_nil))))))))
  (ds_cons (ds_set sc__law_kinds.nd rfl (locOf rfl) (d_add (d_var 1 (pv 1)) (d_fr (df_lst (da_cons (d_isI (by rfl) (fE E (by decide +kernel)) (d_var 0 (pv 0)) (pe_glob (v := .ref (He.ga K "NoPrices")) (by rfl) (gE E (by decide +kernel)) (by rfl)) (.own _) (kt_NoPrices E)) (da_cons (d_isI (by rfl) (fE E (by decide +kernel)) (d_var 0 (pv 0)) (pe_glob (v := .ref (He.ga K "NoRecord")) (by rfl) (gE E (by decide +kernel)) (by rfl)) (.own _) (kt_NoRecord E)) (da_cons (d_isI (by rfl) (fE E (by decide +kernel)) (d_var 0 (pv 0)) (pe_glob (v := .ref (He.ga K "NoRow")) (by rfl) (gE E (by decide +kernel)) (by rfl)) (.own _) (kt_NoRow E)) (da_cons (d_isI (by rfl) (fE E (by decide +kernel)) (d_var 0 (pv 0)) (pe_glob (v := .ref (He.ga K "NoSigns")) (by rfl) (gE E (by decide +kernel)) (by rfl)) (.own _) (kt_NoSigns E)) da_nil))))))))
  (ds_cons (ds_set sc__law_kinds.nd rfl (locOf rfl) (d_add (d_var 1 (pv 1)) (d_fr (df_lst (da_cons (d_isI (by rfl) (fE E (by decide +kernel)) (d_var 0 (pv 0)) (pe_glob (v := .ref (He.ga K "NoText")) (by rfl) (gE E (by decide +kernel)) (by rfl)) (.own _) (kt_NoText E)) (da_cons (d_isI (by rfl) (fE E (by decide +kernel)) (d_var 0 (pv 0)) (pe_glob (v := .ref (He.ga K "NoVersion")) (by rfl) (gE E (by decide +kernel)) (by rfl)) (.own _) (kt_NoVersion E)) (da_cons (d_isI (by rfl) (fE E (by decide +kernel)) (d_var 0 (pv 0)) (pe_glob (v := .ref (He.ga K "NoWork")) (by rfl) (gE E (by decide +kernel)) (by rfl)) (.own _) (kt_NoWork E)) (da_cons (d_isI (by rfl) (fE E (by decide +kernel)) (d_var 0 (pv 0)) (pe_glob (v := .ref (He.ga K "TooLong")) (by rfl) (gE E (by decide +kernel)) (by rfl)) (.own _) (kt_TooLong E)) da_nil))))))))
  (ds_cons (ds_set sc__law_kinds.nd rfl (locOf rfl) (d_add (d_var 1 (pv 1)) (d_fr (df_lst (da_cons (d_isI (by rfl) (fE E (by decide +kernel)) (d_var 0 (pv 0)) (pe_glob (v := .ref (He.ga K "Twice")) (by rfl) (gE E (by decide +kernel)) (by rfl)) (.own _) (kt_Twice E)) (da_cons (d_isI (by rfl) (fE E (by decide +kernel)) (d_var 0 (pv 0)) (pe_glob (v := .ref (He.ga K "Wanting")) (by rfl) (gE E (by decide +kernel)) (by rfl)) (.own _) (kt_Wanting E)) (da_cons (d_isI (by rfl) (fE E (by decide +kernel)) (d_var 0 (pv 0)) (pe_bltn (v := .ty "ValueError") (by rfl) (fE E (by decide +kernel)) PyProof.Rows.Boot.«ValueError» (by rfl)) (.ty _) (kt_ValueError E)) da_nil)))))))
  (ds_cons (ds_set sc__law_kinds.nd rfl (locOf rfl) (d_fr (df_lst (da_cons d_str (da_cons d_str (da_cons d_str (da_cons d_str (da_cons d_str (da_cons d_str (da_cons d_str (da_cons d_str (da_cons d_str (da_cons d_str da_nil)))))))))))))
  (ds_cons (ds_set sc__law_kinds.nd rfl (locOf rfl) (d_add (d_var 2 (pv 2)) (d_fr (df_lst (da_cons d_str (da_cons d_str (da_cons d_str (da_cons d_str (da_cons d_str (da_cons d_str (da_cons d_str (da_cons d_str (da_cons d_str da_nil)))))))))))))
  (ds_cons (ds_set sc__law_kinds.nd rfl (locOf rfl) (d_add (d_var 2 (pv 2)) (d_fr (df_lst (da_cons d_str (da_cons d_str (da_cons d_str (da_cons d_str da_nil))))))))
  (ds_one (ds_ret (d_join d_str (d_fr (df_compH (own := [("k", 3)]) hot List.mem_cons_self sc__law_kinds.nd (dih_range1 (by rfl) (fE E (by decide +kernel)) (da_cons d_int da_nil)) (by show BlkOk N__law_kinds (defScope s__law_kinds) _ _; exact ⟨rfl, by decide +kernel, by decide +kernel, by decide +kernel, by decide +kernel⟩) rfl (fun _ _ _ _ _ => (tg_one sc__law_kinds.nd rfl (locOf rfl))) (fun _ _ _ _ _ => (dts_one (dt_truth (d_ix (by exact rmOfH hr) (d_var 1 (pv 1)) (d_var 3 (pv 3)) (fun _ _ => rfl))))) (fun _ _ _ _ _ => (d_ix (by exact rmOfH hr) (d_var 2 (pv 2)) (d_var 3 (pv 3)) (fun _ _ => rfl)))))))))))))))))
theorem okH__law_kinds (E : Ms.Env fb fn K mg base) : DefH P w K mg base "_law_kinds" 1 1 m__law_kinds := by
  obtain ⟨fd, F⟩ := E.c.def_ 44 (d := d__law_kinds) rfl
  exact ⟨fun ds G h => runFn_len ds G h, He.ga K "_law_kinds", fd, ["e"], fnHD F sc__law_kinds (by decide) (fun cdv A outer s H EE pp hot hr tk => bh__law_kinds E hot hr tk), (gE E (by decide +kernel)), F.kp, FunD.bindsN (ps := ["e"]) F fun _ _ _ _ _ _ us hl => match us, hl with | [_], _ => rfl⟩
/-! ### _law_signs -/
def N__law_signs : List Str := ["page", "found", "author", "first", "last", "place"]
theorem sc__law_signs : FnScope N__law_signs ["page"] (defScope s__law_signs) := ⟨rfl, rfl, rfl, by decide +kernel, rfl, by decide +kernel, by decide +kernel⟩
def l__law_signs_0 : M Fl := (M.drop (M.append (M.peek 1) (M.tup [(M.var 2), (M.var 5)])))
def l__law_signs_1 : M Fl := (M.for_ (M.range2 [(M.var 3), (M.var 4)]) (.one 5) l__law_signs_0)
def b__law_signs : M Fl := (M.seq (M.setOwn 1 (M.disp []))
  (M.seq (M.for_ (M.items (M.var 0)) (.many [2, 3, 4]) l__law_signs_1)
  (M.ret (M.var 1))))
def m__law_signs : Fn := runFn 6 1 b__law_signs
theorem bd__law_signs (E : Ms.Env fb fn K mg base) {fa : Addr} {cdv : Value} {A : Around} {outer : List PySem.Env} {s : Shared} {H : Hp} {EE : XK} (hr : Room 0 (XB P w K mg base N__law_signs "_law_signs" (defScope s__law_signs) fa cdv A outer s H EE).A) (tk : L2N.Takes (XB P w K mg base N__law_signs "_law_signs" (defScope s__law_signs) fa cdv A outer s H EE) (WB EE)) : PSs (XB P w K mg base N__law_signs "_law_signs" (defScope s__law_signs) fa cdv A outer s H EE) (defBody s__law_signs) (tDS (RC0 K mg) (WB EE) b__law_signs) :=
  (ds_cons (ds_setOwn sc__law_signs.nd rfl (locOf rfl) (df_lst da_nil))
  (ds_cons (ds_for ownB rfl (di_val (d_var 0 (pv 0))) (pg_tup rfl (tgs_cons (tg_one sc__law_signs.nd rfl (locOf rfl)) (tgs_cons (tg_one sc__law_signs.nd rfl (locOf rfl)) (tgs_cons (tg_one sc__law_signs.nd rfl (locOf rfl)) tgs_nil))))
  (ds_one (ds_for ownB rfl (di_range2 (by rfl) (fE E (by decide +kernel)) (da_cons (d_var 3 (pv 3)) (da_cons (d_var 4 (pv 4)) da_nil))) (tg_one sc__law_signs.nd rfl (locOf rfl))
  (ds_one (ds_expr (d_append (d_peek 1 (pv 1)) (d_tup (da_cons (d_var 2 (pv 2)) (da_cons (d_var 5 (pv 5)) da_nil)))))))))
  (ds_one (ds_ret (d_var 1 (pv 1))))))
theorem ok__law_signs (E : Ms.Env fb fn K mg base) : Def P w K mg base "_law_signs" 1 1 m__law_signs := by
  obtain ⟨fd, F⟩ := E.c.def_ 45 (d := d__law_signs) rfl
  exact ⟨fun ds G h => runFn_len ds G h, He.ga K "_law_signs", fd, ["page"], fnD F sc__law_signs (by decide) (fun cdv A outer s H EE hr tk => bd__law_signs E hr tk), (gE E (by decide +kernel)), F.kp, FunD.bindsN (ps := ["page"]) F fun _ _ _ _ _ _ us hl => match us, hl with | [_], _ => rfl⟩
/-! ### _law_page_of -/
def N__law_page_of : List Str := ["signs", "found", "author", "place"]
theorem sc__law_page_of : FnScope N__law_page_of ["signs"] (defScope s__law_page_of) := ⟨rfl, rfl, rfl, by decide +kernel, rfl, by decide +kernel, by decide +kernel⟩
def l__law_page_of_0 : M Fl := (M.cond (M.and2 (M.bool (M.op2 fNe (M.peek 1) (M.lst (M.disp [])))) (M.and2 (M.bool (M.op2 fEq (M.op2 fIx (M.op2 fIx (M.peek 1) (do M.opt (negD (← (M.lit (.int 1)))))) (M.lit (.int 0))) (M.var 2))) (M.bool (M.op2 fEq (M.op2 fIx (M.op2 fIx (M.peek 1) (do M.opt (negD (← (M.lit (.int 1)))))) (M.lit (.int 2))) (M.var 3)))))
  (M.setIx (M.peek 1) (do M.opt (negD (← (M.lit (.int 1))))) (M.tup [(M.var 2), (M.op2 fIx (M.op2 fIx (M.peek 1) (do M.opt (negD (← (M.lit (.int 1)))))) (M.lit (.int 1))), (M.op2 fAdd (M.var 3) (M.lit (.int 1)))]))
  (M.drop (M.append (M.peek 1) (M.tup [(M.var 2), (M.var 3), (M.op2 fAdd (M.var 3) (M.lit (.int 1)))]))))
def b__law_page_of : M Fl := (M.seq (M.setOwn 1 (M.disp []))
  (M.seq (M.for_ (M.items (M.var 0)) (.many [2, 3]) l__law_page_of_0)
  (M.ret (M.op1 fTuple (M.peek 1)))))
def m__law_page_of : Fn := runFn 4 1 b__law_page_of
theorem bd__law_page_of (E : Ms.Env fb fn K mg base) {fa : Addr} {cdv : Value} {A : Around} {outer : List PySem.Env} {s : Shared} {H : Hp} {EE : XK} (hr : Room 0 (XB P w K mg base N__law_page_of "_law_page_of" (defScope s__law_page_of) fa cdv A outer s H EE).A) (tk : L2N.Takes (XB P w K mg base N__law_page_of "_law_page_of" (defScope s__law_page_of) fa cdv A outer s H EE) (WB EE)) : PSs (XB P w K mg base N__law_page_of "_law_page_of" (defScope s__law_page_of) fa cdv A outer s H EE) (defBody s__law_page_of) (tDS (RC0 K mg) (WB EE) b__law_page_of) :=
  (ds_cons (ds_setOwn sc__law_page_of.nd rfl (locOf rfl) (df_lst da_nil))
  (ds_cons (ds_for ownB rfl (di_val (d_var 0 (pv 0))) (pg_tup rfl (tgs_cons (tg_one sc__law_page_of.nd rfl (locOf rfl)) (tgs_cons (tg_one sc__law_page_of.nd rfl (locOf rfl)) tgs_nil)))
  (ds_one (ds_if (PW.pt (dw_and (dt_cmp (cNe (by exact rmOf hr)) (d_peek 1 (pv 1)) (d_fr (df_lst da_nil)) rfl) (dw_and (dt_cmp (cEq (by exact rmOf hr)) (d_ix (by exact rmOf hr) (d_ix (by exact rmOf hr) (d_peek 1 (pv 1)) (d_neg d_int) (fun _ _ => rfl)) d_int (fun _ _ => rfl)) (d_var 2 (pv 2)) rfl) (dw_and1 (dt_cmp (cEq (by exact rmOf hr)) (d_ix (by exact rmOf hr) (d_ix (by exact rmOf hr) (d_peek 1 (pv 1)) (d_neg d_int) (fun _ _ => rfl)) d_int (fun _ _ => rfl)) (d_var 3 (pv 3)) rfl)))))
  (ds_one (ds_setIx (d_tup (da_cons (d_var 2 (pv 2)) (da_cons (d_ix (by exact rmOf hr) (d_ix (by exact rmOf hr) (d_peek 1 (pv 1)) (d_neg d_int) (fun _ _ => rfl)) d_int (fun _ _ => rfl)) (da_cons (d_add (d_var 3 (pv 3)) d_int) da_nil)))) (d_peek 1 (pv 1)) (d_neg d_int)))
  (ds_one (ds_expr (d_append (d_peek 1 (pv 1)) (d_tup (da_cons (d_var 2 (pv 2)) (da_cons (d_var 3 (pv 3)) (da_cons (d_add (d_var 3 (pv 3)) d_int) da_nil))))))))))
  (ds_one (ds_ret (d_bltT1 tuple_ok call_tuple_of (by rfl) (fE E (by decide +kernel)) PyProof.Rows.Boot.«tuple» (d_peek 1 (pv 1)))))))
theorem ok__law_page_of (E : Ms.Env fb fn K mg base) : Def P w K mg base "_law_page_of" 1 1 m__law_page_of := by
  obtain ⟨fd, F⟩ := E.c.def_ 46 (d := d__law_page_of) rfl
  exact ⟨fun ds G h => runFn_len ds G h, He.ga K "_law_page_of", fd, ["signs"], fnD F sc__law_page_of (by decide) (fun cdv A outer s H EE hr tk => bd__law_page_of E hr tk), (gE E (by decide +kernel)), F.kp, FunD.bindsN (ps := ["signs"]) F fun _ _ _ _ _ _ us hl => match us, hl with | [_], _ => rfl⟩
/-! ### _law_pool -/
def N__law_pool : List Str := ["author", "letters", "first"]
theorem sc__law_pool : FnScope N__law_pool ["author"] (defScope s__law_pool) := ⟨rfl, rfl, rfl, by decide +kernel, rfl, by decide +kernel, by decide +kernel⟩
def b__law_pool : M Fl := (M.seq (M.set 1 (M.lit (.str "the quick brown fox jumps over a lazy dog and then sleeps")))
  (M.seq (M.set 2 (M.get2 (M.dispS ["ann", "bo", "cy"] [(M.lit (.int 0)), (M.lit (.int 9)), (M.lit (.int 20))]) (M.var 0) (M.lit (.int 31))))
  (M.ret (M.op2 fAdd (M.slice (M.var 1) (some (M.var 2)) none) (M.slice (M.var 1) none (some (M.var 2)))))))
def m__law_pool : Fn := runFn 3 1 b__law_pool
theorem bd__law_pool (E : Ms.Env fb fn K mg base) {fa : Addr} {cdv : Value} {A : Around} {outer : List PySem.Env} {s : Shared} {H : Hp} {EE : XK} (hr : Room 0 (XB P w K mg base N__law_pool "_law_pool" (defScope s__law_pool) fa cdv A outer s H EE).A) (tk : L2N.Takes (XB P w K mg base N__law_pool "_law_pool" (defScope s__law_pool) fa cdv A outer s H EE) (WB EE)) : PSs (XB P w K mg base N__law_pool "_law_pool" (defScope s__law_pool) fa cdv A outer s H EE) (defBody s__law_pool) (tDS (RC0 K mg) (WB EE) b__law_pool) :=
  (ds_cons (ds_set sc__law_pool.nd rfl (locOf rfl) d_str)
  (ds_cons (ds_set sc__law_pool.nd rfl (locOf rfl) (d_get2 (by exact rmOf hr) (d_dispS (.cons d_int (.cons d_int (.cons d_int .nil))) (by simp) (by simp)) (d_var 0 (pv 0)) d_int))
  (ds_one (ds_ret (d_add (d_slice (d_var 1 (pv 1)) (do_some (d_var 2 (pv 2))) do_none) (d_slice (d_var 1 (pv 1)) do_none (do_some (d_var 2 (pv 2)))))))))
theorem ok__law_pool (E : Ms.Env fb fn K mg base) : Def P w K mg base "_law_pool" 1 1 m__law_pool := by
  obtain ⟨fd, F⟩ := E.c.def_ 54 (d := d__law_pool) rfl
  exact ⟨fun ds G h => runFn_len ds G h, He.ga K "_law_pool", fd, ["author"], fnD F sc__law_pool (by decide) (fun cdv A outer s H EE hr tk => bd__law_pool E hr tk), (gE E (by decide +kernel)), F.kp, FunD.bindsN (ps := ["author"]) F fun _ _ _ _ _ _ us hl => match us, hl with | [_], _ => rfl⟩
/-! ### _law_spans_line -/
def N__law_spans_line : List Str := ["spans", "one"]
theorem sc__law_spans_line : FnScope N__law_spans_line ["spans"] (defScope s__law_spans_line) := ⟨rfl, rfl, rfl, by decide +kernel, rfl, by decide +kernel, by decide +kernel⟩
def c__law_spans_line_0 : M (List D) := (M.comp [1] (M.items (M.var 0)) (.one 1) (pure true) (M.op2 fAdd (M.op2 fAdd (M.op2 fAdd (M.op2 fAdd (M.op2 fIx (M.var 1) (M.lit (.int 0))) (M.lit (.str ":"))) (M.op1 (sc1 gStr) (M.op2 fIx (M.var 1) (M.lit (.int 1))))) (M.lit (.str "-"))) (M.op1 (sc1 gStr) (M.op2 fIx (M.var 1) (M.lit (.int 2))))))
def b__law_spans_line : M Fl := (M.ret (M.ite (M.bool (M.op2 fNe (M.var 0) (M.tup []))) (M.join (M.lit (.str ",")) (M.lst c__law_spans_line_0)) (M.lit (.str "-"))))
def m__law_spans_line : Fn := runFn 2 1 b__law_spans_line
theorem bd__law_spans_line (E : Ms.Env fb fn K mg base) {fa : Addr} {cdv : Value} {A : Around} {outer : List PySem.Env} {s : Shared} {H : Hp} {EE : XK} (hr : Room 0 (XB P w K mg base N__law_spans_line "_law_spans_line" (defScope s__law_spans_line) fa cdv A outer s H EE).A) (tk : L2N.Takes (XB P w K mg base N__law_spans_line "_law_spans_line" (defScope s__law_spans_line) fa cdv A outer s H EE) (WB EE)) : PSs (XB P w K mg base N__law_spans_line "_law_spans_line" (defScope s__law_spans_line) fa cdv A outer s H EE) (defBody s__law_spans_line) (tDS (RC0 K mg) (WB EE) b__law_spans_line) :=
  (ds_one (ds_ret (d_if (dt_cmp (cNe (by exact rmOf hr)) (d_var 0 (pv 0)) (d_tup da_nil) rfl) (d_join d_str (d_fr (df_comp (own := [("one", 1)]) rfl sc__law_spans_line.nd (di_val (d_var 0 (pv 0))) (by show BlkOk N__law_spans_line (defScope s__law_spans_line) _ _; exact ⟨rfl, by decide +kernel, by decide +kernel, by decide +kernel, by decide +kernel⟩) rfl (fun _ _ _ _ _ => (tg_one sc__law_spans_line.nd rfl (locOf rfl))) (fun _ _ _ _ _ => dts_nil) (fun _ _ _ _ _ => (d_add (d_add (d_add (d_add (d_ix (by exact rmOf hr) (d_var 1 (pv 1)) d_int (fun _ _ => rfl)) d_str) (d_bltT1 str_ok1 (call_str_int.or SkE.call_str_str) (by rfl) (fE E (by decide +kernel)) PyProof.Rows.Boot.«str» (d_ix (by exact rmOf hr) (d_var 1 (pv 1)) d_int (fun _ _ => rfl)))) d_str) (d_bltT1 str_ok1 (call_str_int.or SkE.call_str_str) (by rfl) (fE E (by decide +kernel)) PyProof.Rows.Boot.«str» (d_ix (by exact rmOf hr) (d_var 1 (pv 1)) d_int (fun _ _ => rfl)))))))) d_str)))
theorem ok__law_spans_line (E : Ms.Env fb fn K mg base) : Def P w K mg base "_law_spans_line" 1 1 m__law_spans_line := by
  obtain ⟨fd, F⟩ := E.c.def_ 56 (d := d__law_spans_line) rfl
  exact ⟨fun ds G h => runFn_len ds G h, He.ga K "_law_spans_line", fd, ["spans"], fnD F sc__law_spans_line (by decide) (fun cdv A outer s H EE hr tk => bd__law_spans_line E hr tk), (gE E (by decide +kernel)), F.kp, FunD.bindsN (ps := ["spans"]) F fun _ _ _ _ _ _ us hl => match us, hl with | [_], _ => rfl⟩
/-! ### _law_id_line -/
def N__law_id_line : List Str := ["which"]
theorem sc__law_id_line : FnScope N__law_id_line ["which"] (defScope s__law_id_line) := ⟨rfl, rfl, rfl, by decide +kernel, rfl, by decide +kernel, by decide +kernel⟩
def b__law_id_line : M Fl := (M.ret (M.op2 fAdd (M.op2 fAdd (M.op2 fIx (M.var 0) (M.lit (.int 0))) (M.lit (.str "."))) (M.op1 (sc1 gStr) (M.op2 fIx (M.var 0) (M.lit (.int 1))))))
def m__law_id_line : Fn := runFn 1 1 b__law_id_line
theorem bd__law_id_line (E : Ms.Env fb fn K mg base) {fa : Addr} {cdv : Value} {A : Around} {outer : List PySem.Env} {s : Shared} {H : Hp} {EE : XK} (hr : Room 0 (XB P w K mg base N__law_id_line "_law_id_line" (defScope s__law_id_line) fa cdv A outer s H EE).A) (tk : L2N.Takes (XB P w K mg base N__law_id_line "_law_id_line" (defScope s__law_id_line) fa cdv A outer s H EE) (WB EE)) : PSs (XB P w K mg base N__law_id_line "_law_id_line" (defScope s__law_id_line) fa cdv A outer s H EE) (defBody s__law_id_line) (tDS (RC0 K mg) (WB EE) b__law_id_line) :=
  (ds_one (ds_ret (d_add (d_add (d_ix (by exact rmOf hr) (d_var 0 (pv 0)) d_int (fun _ _ => rfl)) d_str) (d_bltT1 str_ok1 (call_str_int.or SkE.call_str_str) (by rfl) (fE E (by decide +kernel)) PyProof.Rows.Boot.«str» (d_ix (by exact rmOf hr) (d_var 0 (pv 0)) d_int (fun _ _ => rfl))))))
theorem ok__law_id_line (E : Ms.Env fb fn K mg base) : Def P w K mg base "_law_id_line" 1 1 m__law_id_line := by
  obtain ⟨fd, F⟩ := E.c.def_ 57 (d := d__law_id_line) rfl
  exact ⟨fun ds G h => runFn_len ds G h, He.ga K "_law_id_line", fd, ["which"], fnD F sc__law_id_line (by decide) (fun cdv A outer s H EE hr tk => bd__law_id_line E hr tk), (gE E (by decide +kernel)), F.kp, FunD.bindsN (ps := ["which"]) F fun _ _ _ _ _ _ us hl => match us, hl with | [_], _ => rfl⟩
/-! ### is_within -/
def N_is_within : List Str := ["thing", "least", "most"]
theorem sc_is_within : FnScope N_is_within ["thing", "least", "most"] (defScope s_is_within) := ⟨rfl, rfl, rfl, by decide +kernel, rfl, by decide +kernel, by decide +kernel⟩
def b_is_within : M Fl := (M.ret (M.andV (M.call m_is_whole [(M.var 0)]) (M.chain (fInt gLe) (fInt gLe) (M.var 1) (M.var 0) (M.var 2))))
def m_is_within : Fn := runFn 3 3 b_is_within
theorem bd_is_within (E : Ms.Env fb fn K mg base) {fa : Addr} {cdv : Value} {A : Around} {outer : List PySem.Env} {s : Shared} {H : Hp} {EE : XK} (hr : Room 1 (XB P w K mg base N_is_within "is_within" (defScope s_is_within) fa cdv A outer s H EE).A) (tk : L2N.Takes (XB P w K mg base N_is_within "is_within" (defScope s_is_within) fa cdv A outer s H EE) (WB EE)) : PSs (XB P w K mg base N_is_within "is_within" (defScope s_is_within) fa cdv A outer s H EE) (defBody s_is_within) (tDS (RC0 K mg) (WB EE) b_is_within) :=
  (ds_one (ds_ret (d_and (d_call (ok_is_whole E) hr (by decide) tk (by rfl) (da_cons (d_var 0 (pv 0)) da_nil)) (d_one (d_chain cLe cLe (d_var 1 (pv 1)) (d_var 0 (pv 0)) (d_var 2 (pv 2)))))))
theorem ok_is_within (E : Ms.Env fb fn K mg base) : Def P w K mg base "is_within" 2 3 m_is_within := by
  obtain ⟨fd, F⟩ := E.c.def_ 10 (d := d_is_within) rfl
  exact ⟨fun ds G h => runFn_len ds G h, He.ga K "is_within", fd, ["thing", "least", "most"], fnD F sc_is_within (by decide) (fun cdv A outer s H EE hr tk => bd_is_within E hr tk), (gE E (by decide +kernel)), F.kp, FunD.bindsN (ps := ["thing", "least", "most"]) F fun _ _ _ _ _ _ us hl => match us, hl with | [_, _, _], _ => rfl⟩
/-! ### is_poured -/
def N_is_poured : List Str := ["thing", "sign"]
theorem sc_is_poured : FnScope N_is_poured ["thing"] (defScope s_is_poured) := ⟨rfl, rfl, rfl, by decide +kernel, rfl, by decide +kernel, by decide +kernel⟩
def c_is_poured_0 : M (List D) := (M.comp [1] (M.items (M.var 0)) (.one 1) (pure true) (M.call m_is_sign [(M.var 1)]))
def b_is_poured : M Fl := (M.ret (M.andV (M.isI kf_str (M.var 0)) (M.andV (M.chain (fInt gLe) (fInt gLe) (M.lit (.int 1)) (M.op1 fLen (M.var 0)) (M.lit (.int 200))) (M.op1 fAll (M.lst c_is_poured_0)))))
def m_is_poured : Fn := runFn 2 1 b_is_poured
theorem bd_is_poured (E : Ms.Env fb fn K mg base) {fa : Addr} {cdv : Value} {A : Around} {outer : List PySem.Env} {s : Shared} {H : Hp} {EE : XK} (hr : Room 1 (XB P w K mg base N_is_poured "is_poured" (defScope s_is_poured) fa cdv A outer s H EE).A) (tk : L2N.Takes (XB P w K mg base N_is_poured "is_poured" (defScope s_is_poured) fa cdv A outer s H EE) (WB EE)) : PSs (XB P w K mg base N_is_poured "is_poured" (defScope s_is_poured) fa cdv A outer s H EE) (defBody s_is_poured) (tDS (RC0 K mg) (WB EE) b_is_poured) :=
  (ds_one (ds_ret (d_and (d_isI (by rfl) (fE E (by decide +kernel)) (d_var 0 (pv 0)) (pe_bltn (v := .ty "str") (by rfl) (fE E (by decide +kernel)) PyProof.Rows.Boot.«str» (by rfl)) (.ty _) (kt_str E)) (d_and (d_chain cLe cLe d_int (d_blt1 len_ok call_len (by rfl) (fE E (by decide +kernel)) PyProof.Rows.Boot.«len» (d_var 0 (pv 0))) (d_gI (by rfl) (gc_MOST_POURED E))) (d_one (d_blt1 all_ok (cr_all rfl) (by rfl) (fE E (by decide +kernel)) PyProof.Rows.Boot.«all» (d_fr (df_comp (own := [("sign", 1)]) rfl sc_is_poured.nd (di_val (d_var 0 (pv 0))) (by show BlkOk N_is_poured (defScope s_is_poured) _ _; exact ⟨rfl, by decide +kernel, by decide +kernel, by decide +kernel, by decide +kernel⟩) rfl (fun _ _ _ _ _ => (tg_one sc_is_poured.nd rfl (locOf rfl))) (fun _ _ _ _ _ => dts_nil) (fun _ _ _ _ _ => (d_call (ok_is_sign E) (by exact hr) (by decide) takes0 (by rfl) (da_cons (d_var 1 (pv 1)) da_nil)))))))))))
theorem ok_is_poured (E : Ms.Env fb fn K mg base) : Def P w K mg base "is_poured" 2 1 m_is_poured := by
  obtain ⟨fd, F⟩ := E.c.def_ 20 (d := d_is_poured) rfl
  exact ⟨fun ds G h => runFn_len ds G h, He.ga K "is_poured", fd, ["thing"], fnD F sc_is_poured (by decide) (fun cdv A outer s H EE hr tk => bd_is_poured E hr tk), (gE E (by decide +kernel)), F.kp, FunD.bindsN (ps := ["thing"]) F fun _ _ _ _ _ _ us hl => match us, hl with | [_], _ => rfl⟩
/-! ### record_text -/
def N_record_text : List Str := ["record", "word", "ids", "parts", "work", "author", "number", "parents", "page", "kind", "froms", "tos", "part", "which"]
theorem sc_record_text : FnScope N_record_text ["record"] (defScope s_record_text) := ⟨rfl, rfl, rfl, by decide +kernel, rfl, by decide +kernel, by decide +kernel⟩
def c_record_text_0 : M (List D) := (M.comp [12] (M.items (M.var 0)) (.one 12) (pure true) (M.op1 (sc1 gStr) (M.var 12)))
def c_record_text_1 : M (List D) := (M.comp [13] (M.items (M.var 7)) (.one 13) (pure true) (M.call m_id_text [(M.var 13)]))
def b_record_text : M Fl := (M.seq (M.setStar 1 3 (M.var 0))
  (M.seq (M.cond (M.bool (M.op2 fEq (M.var 1) (M.lit (.str "page"))))
  (M.seq (M.setManyL [4, 5, 6, 7, 8] (M.var 3))
  (M.seq (M.set 2 (M.orV (M.join (M.lit (.str "+")) (M.lst c_record_text_1)) (M.lit (.str "-"))))
  (M.ret (M.js [(M.lit (.str "page ")), (M.op1 (sc1 gFmt) (M.var 4)), (M.lit (.str " ")), (M.op1 (sc1 gFmt) (M.var 5)), (M.lit (.str " ")), (M.op1 (sc1 gFmt) (M.var 6)), (M.lit (.str " ")), (M.op1 (sc1 gFmt) (M.var 2)), (M.lit (.str " ")), (M.op1 (sc1 gFmt) (M.call m_spans_text [(M.var 8)]))] Str.empty))))
  (pure .nx))
  (M.seq (M.cond (M.bool (M.op2 fEq (M.var 1) (M.lit (.str "link"))))
  (M.seq (M.setManyL [5, 6, 9, 10, 11] (M.var 3))
  (M.ret (M.js [(M.lit (.str "link ")), (M.op1 (sc1 gFmt) (M.var 5)), (M.lit (.str " ")), (M.op1 (sc1 gFmt) (M.var 6)), (M.lit (.str " ")), (M.op1 (sc1 gFmt) (M.var 9)), (M.lit (.str " ")), (M.op1 (sc1 gFmt) (M.call m_spans_text [(M.var 10)])), (M.lit (.str " ")), (M.op1 (sc1 gFmt) (M.call m_spans_text [(M.var 11)]))] Str.empty)))
  (pure .nx))
  (M.ret (M.join (M.lit (.str " ")) (M.lst c_record_text_0))))))
def m_record_text : Fn := runFn 14 1 b_record_text
theorem bd_record_text (E : Ms.Env fb fn K mg base) {fa : Addr} {cdv : Value} {A : Around} {outer : List PySem.Env} {s : Shared} {H : Hp} {EE : XK} (hr : Room 1 (XB P w K mg base N_record_text "record_text" (defScope s_record_text) fa cdv A outer s H EE).A) (tk : L2N.Takes (XB P w K mg base N_record_text "record_text" (defScope s_record_text) fa cdv A outer s H EE) (WB EE)) : PSs (XB P w K mg base N_record_text "record_text" (defScope s_record_text) fa cdv A outer s H EE) (defBody s_record_text) (tDS (RC0 K mg) (WB EE) b_record_text) :=
  (ds_cons (ds_setStar rfl sc_record_text.nd rfl rfl (locOf rfl) (locOf rfl) (d_var 0 (pv 0)))
  (ds_cons (ds_if (dt_cmp (cEq (by exact rmOf hr)) (d_var 1 (pv 1)) d_str rfl)
  (ds_cons (ds_setManyL rfl (tgs_cons (tg_one sc_record_text.nd rfl (locOf rfl)) (tgs_cons (tg_one sc_record_text.nd rfl (locOf rfl)) (tgs_cons (tg_one sc_record_text.nd rfl (locOf rfl)) (tgs_cons (tg_one sc_record_text.nd rfl (locOf rfl)) (tgs_cons (tg_one sc_record_text.nd rfl (locOf rfl)) tgs_nil))))) (d_var 3 (pv 3)))
  (ds_cons (ds_set sc_record_text.nd rfl (locOf rfl) (d_or (d_join d_str (d_fr (df_comp (own := [("which", 13)]) rfl sc_record_text.nd (di_val (d_var 7 (pv 7))) (by show BlkOk N_record_text (defScope s_record_text) _ _; exact ⟨rfl, by decide +kernel, by decide +kernel, by decide +kernel, by decide +kernel⟩) rfl (fun _ _ _ _ _ => (tg_one sc_record_text.nd rfl (locOf rfl))) (fun _ _ _ _ _ => dts_nil) (fun _ _ _ _ _ => (d_call (ok_id_text E) (by exact hr) (by decide) takes0 (by rfl) (da_cons (d_var 13 (pv 13)) da_nil)))))) (d_one (d_gS (by rfl) (gc_NONE E)))))
  (ds_one (ds_ret (d_joined (.cons d_str (.cons (d_fmt (d_var 4 (pv 4))) (.cons d_str (.cons (d_fmt (d_var 5 (pv 5))) (.cons d_str (.cons (d_fmt (d_var 6 (pv 6))) (.cons d_str (.cons (d_fmt (d_var 2 (pv 2))) (.cons d_str (.cons (d_fmt (d_call (ok_spans_text E) hr (by decide) tk (by rfl) (da_cons (d_var 8 (pv 8)) da_nil))) .nil)))))))))))))))
  ds_nil)
  (ds_cons (ds_if (dt_cmp (cEq (by exact rmOf hr)) (d_var 1 (pv 1)) d_str rfl)
  (ds_cons (ds_setManyL rfl (tgs_cons (tg_one sc_record_text.nd rfl (locOf rfl)) (tgs_cons (tg_one sc_record_text.nd rfl (locOf rfl)) (tgs_cons (tg_one sc_record_text.nd rfl (locOf rfl)) (tgs_cons (tg_one sc_record_text.nd rfl (locOf rfl)) (tgs_cons (tg_one sc_record_text.nd rfl (locOf rfl)) tgs_nil))))) (d_var 3 (pv 3)))
  (ds_one (ds_ret (d_joined (.cons d_str (.cons (d_fmt (d_var 5 (pv 5))) (.cons d_str (.cons (d_fmt (d_var 6 (pv 6))) (.cons d_str (.cons (d_fmt (d_var 9 (pv 9))) (.cons d_str (.cons (d_fmt (d_call (ok_spans_text E) hr (by decide) tk (by rfl) (da_cons (d_var 10 (pv 10)) da_nil))) (.cons d_str (.cons (d_fmt (d_call (ok_spans_text E) hr (by decide) tk (by rfl) (da_cons (d_var 11 (pv 11)) da_nil))) .nil))))))))))))))
  ds_nil)
  (ds_one (ds_ret (d_join d_str (d_fr (df_comp (own := [("part", 12)]) rfl sc_record_text.nd (di_val (d_var 0 (pv 0))) (by show BlkOk N_record_text (defScope s_record_text) _ _; exact ⟨rfl, by decide +kernel, by decide +kernel, by decide +kernel, by decide +kernel⟩) rfl (fun _ _ _ _ _ => (tg_one sc_record_text.nd rfl (locOf rfl))) (fun _ _ _ _ _ => dts_nil) (fun _ _ _ _ _ => (d_bltT1 str_ok1 (call_str_int.or SkE.call_str_str) (by rfl) (fE E (by decide +kernel)) PyProof.Rows.Boot.«str» (d_var 12 (pv 12))))))))))))
theorem ok_record_text (E : Ms.Env fb fn K mg base) : Def P w K mg base "record_text" 2 1 m_record_text := by
  obtain ⟨fd, F⟩ := E.c.def_ 29 (d := d_record_text) rfl
  exact ⟨fun ds G h => runFn_len ds G h, He.ga K "record_text", fd, ["record"], fnD F sc_record_text (by decide) (fun cdv A outer s H EE hr tk => bd_record_text E hr tk), (gE E (by decide +kernel)), F.kp, FunD.bindsN (ps := ["record"]) F fun _ _ _ _ _ _ us hl => match us, hl with | [_], _ => rfl⟩
/-! ### id_of -/
def N_id_of : List Str := ["word", "name", "rest"]
theorem sc_id_of : FnScope N_id_of ["word"] (defScope s_id_of) := ⟨rfl, rfl, rfl, by decide +kernel, rfl, by decide +kernel, by decide +kernel⟩
def b_id_of : M Fl := (M.seq (M.setStar 1 2 (M.split (M.var 0) (M.lit (.str "."))))
  (M.ret (M.tup [(M.var 1), (M.call m_number_of [(M.join (M.lit (.str ".")) (M.var 2))])])))
def m_id_of : Fn := runFn 3 1 b_id_of
theorem bd_id_of (E : Ms.Env fb fn K mg base) {fa : Addr} {cdv : Value} {A : Around} {outer : List PySem.Env} {s : Shared} {H : Hp} {EE : XK} (hr : Room 1 (XB P w K mg base N_id_of "id_of" (defScope s_id_of) fa cdv A outer s H EE).A) (tk : L2N.Takes (XB P w K mg base N_id_of "id_of" (defScope s_id_of) fa cdv A outer s H EE) (WB EE)) : PSs (XB P w K mg base N_id_of "id_of" (defScope s_id_of) fa cdv A outer s H EE) (defBody s_id_of) (tDS (RC0 K mg) (WB EE) b_id_of) :=
  (ds_cons (ds_setStar rfl sc_id_of.nd rfl rfl (locOf rfl) (locOf rfl) (d_split (d_var 0 (pv 0)) d_str))
  (ds_one (ds_ret (d_tup (da_cons (d_var 1 (pv 1)) (da_cons (d_call (ok_number_of E) hr (by decide) tk (by rfl) (da_cons (d_join d_str (d_var 2 (pv 2))) da_nil)) da_nil))))))
theorem ok_id_of (E : Ms.Env fb fn K mg base) : Def P w K mg base "id_of" 2 1 m_id_of := by
  obtain ⟨fd, F⟩ := E.c.def_ 33 (d := d_id_of) rfl
  exact ⟨fun ds G h => runFn_len ds G h, He.ga K "id_of", fd, ["word"], fnD F sc_id_of (by decide) (fun cdv A outer s H EE hr tk => bd_id_of E hr tk), (gE E (by decide +kernel)), F.kp, FunD.bindsN (ps := ["word"]) F fun _ _ _ _ _ _ us hl => match us, hl with | [_], _ => rfl⟩
/-! ### _law_of -/
def N__law_of : List Str := ["bag", "some"]
theorem sc__law_of : FnScope N__law_of ["bag", "some"] (defScope s__law_of) := ⟨rfl, rfl, rfl, by decide +kernel, rfl, by decide +kernel, by decide +kernel⟩
def b__law_of : M Fl := (M.ret (M.op2 fIx (M.var 1) (M.call m__law_take [(M.var 0), (M.op1 fLen (M.var 1))])))
def m__law_of : Fn := runFn 2 2 b__law_of
theorem bd__law_of (E : Ms.Env fb fn K mg base) {fa : Addr} {cdv : Value} {A : Around} {outer : List PySem.Env} {s : Shared} {H : Hp} {EE : XK} (hr : Room 1 (XB P w K mg base N__law_of "_law_of" (defScope s__law_of) fa cdv A outer s H EE).A) (tk : L2N.Takes (XB P w K mg base N__law_of "_law_of" (defScope s__law_of) fa cdv A outer s H EE) (WB EE)) : PSs (XB P w K mg base N__law_of "_law_of" (defScope s__law_of) fa cdv A outer s H EE) (defBody s__law_of) (tDS (RC0 K mg) (WB EE) b__law_of) :=
  (ds_one (ds_ret (d_ix (by exact rmOf hr) (d_var 1 (pv 1)) (d_call (ok__law_take E) hr (by decide) tk (by rfl) (da_cons (d_var 0 (pv 0)) (da_cons (d_blt1 len_ok call_len (by rfl) (fE E (by decide +kernel)) PyProof.Rows.Boot.«len» (d_var 1 (pv 1))) da_nil))) (fun _ _ => rfl))))
theorem ok__law_of (E : Ms.Env fb fn K mg base) : Def P w K mg base "_law_of" 2 2 m__law_of := by
  obtain ⟨fd, F⟩ := E.c.def_ 42 (d := d__law_of) rfl
  exact ⟨fun ds G h => runFn_len ds G h, He.ga K "_law_of", fd, ["bag", "some"], fnD F sc__law_of (by decide) (fun cdv A outer s H EE hr tk => bd__law_of E hr tk), (gE E (by decide +kernel)), F.kp, FunD.bindsN (ps := ["bag", "some"]) F fun _ _ _ _ _ _ us hl => match us, hl with | [_, _], _ => rfl⟩
/-! ### _law_name -/
def N__law_name : List Str := ["bag", "many", "k"]
theorem sc__law_name : FnScope N__law_name ["bag"] (defScope s__law_name) := ⟨rfl, rfl, rfl, by decide +kernel, rfl, by decide +kernel, by decide +kernel⟩
def c__law_name_0 : M (List D) := (M.comp [2] (M.range1 [(M.var 1)]) (.one 2) (pure true) (M.op2 fIx (M.lit (.str "abcdefghijklmnopqrstuvwxyz")) (M.call m__law_take [(M.var 0), (M.lit (.int 26))])))
def b__law_name : M Fl := (M.seq (M.set 1 (M.op2 fAdd (M.lit (.int 1)) (M.op2 fIx (M.lst (M.disp [(M.call m__law_take [(M.var 0), (M.lit (.int 3))]), (M.call m__law_take [(M.var 0), (M.lit (.int 8))])])) (M.op1 (sc1 gIntS) (M.op2 fEq (M.call m__law_take [(M.var 0), (M.lit (.int 4))]) (M.lit (.int 0)))))))
  (M.ret (M.join (M.lit (.str "")) (M.lst c__law_name_0))))
def m__law_name : Fn := runFn 3 1 b__law_name
theorem bd__law_name (E : Ms.Env fb fn K mg base) {fa : Addr} {cdv : Value} {A : Around} {outer : List PySem.Env} {s : Shared} {H : Hp} {EE : XK} (hr : Room 1 (XB P w K mg base N__law_name "_law_name" (defScope s__law_name) fa cdv A outer s H EE).A) (tk : L2N.Takes (XB P w K mg base N__law_name "_law_name" (defScope s__law_name) fa cdv A outer s H EE) (WB EE)) : PSs (XB P w K mg base N__law_name "_law_name" (defScope s__law_name) fa cdv A outer s H EE) (defBody s__law_name) (tDS (RC0 K mg) (WB EE) b__law_name) :=
  (ds_cons (ds_set sc__law_name.nd rfl (locOf rfl) (d_add d_int (d_ix (by exact rmOf hr) (d_fr (df_lst (da_cons (d_call (ok__law_take E) hr (by decide) tk (by rfl) (da_cons (d_var 0 (pv 0)) (da_cons d_int da_nil))) (da_cons (d_call (ok__law_take E) hr (by decide) tk (by rfl) (da_cons (d_var 0 (pv 0)) (da_cons d_int da_nil))) da_nil)))) (d_bltT1 intS_ok (call_int1.or call_int_str) (by rfl) (fE E (by decide +kernel)) PyProof.Rows.Boot.«int» (d_cmp (cEq (by exact rmOf hr)) (d_call (ok__law_take E) hr (by decide) tk (by rfl) (da_cons (d_var 0 (pv 0)) (da_cons d_int da_nil))) d_int rfl)) (fun _ _ => rfl))))
  (ds_one (ds_ret (d_join d_str (d_fr (df_comp (own := [("k", 2)]) rfl sc__law_name.nd (di_range1 (by rfl) (fE E (by decide +kernel)) (da_cons (d_var 1 (pv 1)) da_nil)) (by show BlkOk N__law_name (defScope s__law_name) _ _; exact ⟨rfl, by decide +kernel, by decide +kernel, by decide +kernel, by decide +kernel⟩) rfl (fun _ _ _ _ _ => (tg_one sc__law_name.nd rfl (locOf rfl))) (fun _ _ _ _ _ => dts_nil) (fun _ _ _ _ _ => (d_ix (by exact rmOf hr) d_str (d_call (ok__law_take E) (by exact hr) (by decide) takes0 (by rfl) (da_cons (d_var 0 (pv 0)) (da_cons d_int da_nil))) (fun _ _ => rfl)))))))))
theorem ok__law_name (E : Ms.Env fb fn K mg base) : Def P w K mg base "_law_name" 2 1 m__law_name := by
  obtain ⟨fd, F⟩ := E.c.def_ 43 (d := d__law_name) rfl
  exact ⟨fun ds G h => runFn_len ds G h, He.ga K "_law_name", fd, ["bag"], fnD F sc__law_name (by decide) (fun cdv A outer s H EE hr tk => bd__law_name E hr tk), (gE E (by decide +kernel)), F.kp, FunD.bindsN (ps := ["bag"]) F fun _ _ _ _ _ _ us hl => match us, hl with | [_], _ => rfl⟩
/-! ### _law_ends_of -/
def N__law_ends_of : List Str := ["some"]
theorem sc__law_ends_of : FnScope N__law_ends_of ["some"] (defScope s__law_ends_of) := ⟨rfl, rfl, rfl, by decide +kernel, rfl, by decide +kernel, by decide +kernel⟩
def b__law_ends_of : M Fl := (M.ret (M.call m__law_page_of [(M.sortSet (M.var 0))]))
def m__law_ends_of : Fn := runFn 1 1 b__law_ends_of
theorem bd__law_ends_of (E : Ms.Env fb fn K mg base) {fa : Addr} {cdv : Value} {A : Around} {outer : List PySem.Env} {s : Shared} {H : Hp} {EE : XK} (hr : Room 1 (XB P w K mg base N__law_ends_of "_law_ends_of" (defScope s__law_ends_of) fa cdv A outer s H EE).A) (tk : L2N.Takes (XB P w K mg base N__law_ends_of "_law_ends_of" (defScope s__law_ends_of) fa cdv A outer s H EE) (WB EE)) : PSs (XB P w K mg base N__law_ends_of "_law_ends_of" (defScope s__law_ends_of) fa cdv A outer s H EE) (defBody s__law_ends_of) (tDS (RC0 K mg) (WB EE) b__law_ends_of) :=
  (ds_one (ds_ret (d_call (ok__law_page_of E) hr (by decide) tk (by rfl) (da_cons (d_sortSet rfl (by exact rmOf hr) (by rfl) (fE E (by decide +kernel)) (by rfl) (fE E (by decide +kernel)) (d_var 0 (pv 0))) da_nil))))
theorem ok__law_ends_of (E : Ms.Env fb fn K mg base) : Def P w K mg base "_law_ends_of" 2 1 m__law_ends_of := by
  obtain ⟨fd, F⟩ := E.c.def_ 49 (d := d__law_ends_of) rfl
  exact ⟨fun ds G h => runFn_len ds G h, He.ga K "_law_ends_of", fd, ["some"], fnD F sc__law_ends_of (by decide) (fun cdv A outer s H EE hr tk => bd__law_ends_of E hr tk), (gE E (by decide +kernel)), F.kp, FunD.bindsN (ps := ["some"]) F fun _ _ _ _ _ _ us hl => match us, hl with | [_], _ => rfl⟩
/-! ### _law_line -/
def N__law_line : List Str := ["record", "ids", "words", "bit", "which"]
theorem sc__law_line : FnScope N__law_line ["record"] (defScope s__law_line) := ⟨rfl, rfl, rfl, by decide +kernel, rfl, by decide +kernel, by decide +kernel⟩
def c__law_line_0 : M (List D) := (M.comp [3] (M.items (M.var 0)) (.one 3) (pure true) (M.op1 (sc1 gStr) (M.var 3)))
def c__law_line_1 : M (List D) := (M.comp [4] (M.items (M.op2 fIx (M.var 0) (M.lit (.int 4)))) (.one 4) (pure true) (M.call m__law_id_line [(M.var 4)]))
def b__law_line : M Fl := (M.seq (M.cond (M.bool (M.op2 fEq (M.op2 fIx (M.var 0) (M.lit (.int 0))) (M.lit (.str "page"))))
  (M.seq (M.set 1 (M.ite (M.bool (M.op2 fNe (M.op2 fIx (M.var 0) (M.lit (.int 4))) (M.tup []))) (M.join (M.lit (.str "+")) (M.lst c__law_line_1)) (M.lit (.str "-"))))
  (M.ret (M.join (M.lit (.str " ")) (M.lst (M.disp [(M.lit (.str "page")), (M.op2 fIx (M.var 0) (M.lit (.int 1))), (M.op2 fIx (M.var 0) (M.lit (.int 2))), (M.op1 (sc1 gStr) (M.op2 fIx (M.var 0) (M.lit (.int 3)))), (M.var 1), (M.call m__law_spans_line [(M.op2 fIx (M.var 0) (M.lit (.int 5)))])])))))
  (pure .nx))
  (M.seq (M.cond (M.bool (M.op2 fEq (M.op2 fIx (M.var 0) (M.lit (.int 0))) (M.lit (.str "link"))))
  (M.seq (M.set 2 (M.lst (M.disp [(M.lit (.str "link")), (M.op2 fIx (M.var 0) (M.lit (.int 1))), (M.op1 (sc1 gStr) (M.op2 fIx (M.var 0) (M.lit (.int 2)))), (M.op2 fIx (M.var 0) (M.lit (.int 3)))])))
  (M.ret (M.join (M.lit (.str " ")) (M.op2 fAdd (M.var 2) (M.lst (M.disp [(M.call m__law_spans_line [(M.op2 fIx (M.var 0) (M.lit (.int 4)))]), (M.call m__law_spans_line [(M.op2 fIx (M.var 0) (M.lit (.int 5)))])]))))))
  (pure .nx))
  (M.ret (M.join (M.lit (.str " ")) (M.lst c__law_line_0)))))
def m__law_line : Fn := runFn 5 1 b__law_line
theorem bd__law_line (E : Ms.Env fb fn K mg base) {fa : Addr} {cdv : Value} {A : Around} {outer : List PySem.Env} {s : Shared} {H : Hp} {EE : XK} (hr : Room 1 (XB P w K mg base N__law_line "_law_line" (defScope s__law_line) fa cdv A outer s H EE).A) (tk : L2N.Takes (XB P w K mg base N__law_line "_law_line" (defScope s__law_line) fa cdv A outer s H EE) (WB EE)) : PSs (XB P w K mg base N__law_line "_law_line" (defScope s__law_line) fa cdv A outer s H EE) (defBody s__law_line) (tDS (RC0 K mg) (WB EE) b__law_line) :=
  (ds_cons (ds_if (dt_cmp (cEq (by exact rmOf hr)) (d_ix (by exact rmOf hr) (d_var 0 (pv 0)) d_int (fun _ _ => rfl)) d_str rfl)
  (ds_cons (ds_set sc__law_line.nd rfl (locOf rfl) (d_if (dt_cmp (cNe (by exact rmOf hr)) (d_ix (by exact rmOf hr) (d_var 0 (pv 0)) d_int (fun _ _ => rfl)) (d_tup da_nil) rfl) (d_join d_str (d_fr (df_comp (own := [("which", 4)]) rfl sc__law_line.nd (di_val (d_ix (by exact rmOf hr) (d_var 0 (pv 0)) d_int (fun _ _ => rfl))) (by show BlkOk N__law_line (defScope s__law_line) _ _; exact ⟨rfl, by decide +kernel, by decide +kernel, by decide +kernel, by decide +kernel⟩) rfl (fun _ _ _ _ _ => (tg_one sc__law_line.nd rfl (locOf rfl))) (fun _ _ _ _ _ => dts_nil) (fun _ _ _ _ _ => (d_call (ok__law_id_line E) (by exact hr) (by decide) takes0 (by rfl) (da_cons (d_var 4 (pv 4)) da_nil)))))) d_str))
  (ds_one (ds_ret (d_join d_str (d_fr (df_lst (da_cons d_str (da_cons (d_ix (by exact rmOf hr) (d_var 0 (pv 0)) d_int (fun _ _ => rfl)) (da_cons (d_ix (by exact rmOf hr) (d_var 0 (pv 0)) d_int (fun _ _ => rfl)) (da_cons (d_bltT1 str_ok1 (call_str_int.or SkE.call_str_str) (by rfl) (fE E (by decide +kernel)) PyProof.Rows.Boot.«str» (d_ix (by exact rmOf hr) (d_var 0 (pv 0)) d_int (fun _ _ => rfl))) (da_cons (d_var 1 (pv 1)) (da_cons (d_call (ok__law_spans_line E) hr (by decide) tk (by rfl) (da_cons (d_ix (by exact rmOf hr) (d_var 0 (pv 0)) d_int (fun _ _ => rfl)) da_nil)) da_nil))))))))))))
  ds_nil)
  (ds_cons (ds_if (dt_cmp (cEq (by exact rmOf hr)) (d_ix (by exact rmOf hr) (d_var 0 (pv 0)) d_int (fun _ _ => rfl)) d_str rfl)
  (ds_cons (ds_set sc__law_line.nd rfl (locOf rfl) (d_fr (df_lst (da_cons d_str (da_cons (d_ix (by exact rmOf hr) (d_var 0 (pv 0)) d_int (fun _ _ => rfl)) (da_cons (d_bltT1 str_ok1 (call_str_int.or SkE.call_str_str) (by rfl) (fE E (by decide +kernel)) PyProof.Rows.Boot.«str» (d_ix (by exact rmOf hr) (d_var 0 (pv 0)) d_int (fun _ _ => rfl))) (da_cons (d_ix (by exact rmOf hr) (d_var 0 (pv 0)) d_int (fun _ _ => rfl)) da_nil)))))))
  (ds_one (ds_ret (d_join d_str (d_add (d_var 2 (pv 2)) (d_fr (df_lst (da_cons (d_call (ok__law_spans_line E) hr (by decide) tk (by rfl) (da_cons (d_ix (by exact rmOf hr) (d_var 0 (pv 0)) d_int (fun _ _ => rfl)) da_nil)) (da_cons (d_call (ok__law_spans_line E) hr (by decide) tk (by rfl) (da_cons (d_ix (by exact rmOf hr) (d_var 0 (pv 0)) d_int (fun _ _ => rfl)) da_nil)) da_nil)))))))))
  ds_nil)
  (ds_one (ds_ret (d_join d_str (d_fr (df_comp (own := [("bit", 3)]) rfl sc__law_line.nd (di_val (d_var 0 (pv 0))) (by show BlkOk N__law_line (defScope s__law_line) _ _; exact ⟨rfl, by decide +kernel, by decide +kernel, by decide +kernel, by decide +kernel⟩) rfl (fun _ _ _ _ _ => (tg_one sc__law_line.nd rfl (locOf rfl))) (fun _ _ _ _ _ => dts_nil) (fun _ _ _ _ _ => (d_bltT1 str_ok1 (call_str_int.or SkE.call_str_str) (by rfl) (fE E (by decide +kernel)) PyProof.Rows.Boot.«str» (d_var 3 (pv 3)))))))))))
theorem ok__law_line (E : Ms.Env fb fn K mg base) : Def P w K mg base "_law_line" 2 1 m__law_line := by
  obtain ⟨fd, F⟩ := E.c.def_ 58 (d := d__law_line) rfl
  exact ⟨fun ds G h => runFn_len ds G h, He.ga K "_law_line", fd, ["record"], fnD F sc__law_line (by decide) (fun cdv A outer s H EE hr tk => bd__law_line E hr tk), (gE E (by decide +kernel)), F.kp, FunD.bindsN (ps := ["record"]) F fun _ _ _ _ _ _ us hl => match us, hl with | [_], _ => rfl⟩
/-! ### is_span -/
def N_is_span : List Str := ["thing"]
theorem sc_is_span : FnScope N_is_span ["thing"] (defScope s_is_span) := ⟨rfl, rfl, rfl, by decide +kernel, rfl, by decide +kernel, by decide +kernel⟩
def b_is_span : M Fl := (M.seq (M.cond (M.or2 (M.not (M.truth (M.isI kf_tuple (M.var 0)))) (M.or2 (M.bool (M.op2 fNe (M.op1 fLen (M.var 0)) (M.lit (.int 3)))) (M.not (M.truth (M.call m_is_name [(M.op2 fIx (M.var 0) (M.lit (.int 0)))])))))
  (M.ret (M.lit (.bl false)))
  (pure .nx))
  (M.ret (M.andV (M.call m_is_within [(M.op2 fIx (M.var 0) (M.lit (.int 1))), (M.lit (.int 0)), (M.lit (.int 1000000))]) (M.andV (M.call m_is_within [(M.op2 fIx (M.var 0) (M.lit (.int 2))), (M.lit (.int 0)), (M.lit (.int 1000000))]) (M.op2 fLt (M.op2 fIx (M.var 0) (M.lit (.int 1))) (M.op2 fIx (M.var 0) (M.lit (.int 2))))))))
def m_is_span : Fn := runFn 1 1 b_is_span
theorem bd_is_span (E : Ms.Env fb fn K mg base) {fa : Addr} {cdv : Value} {A : Around} {outer : List PySem.Env} {s : Shared} {H : Hp} {EE : XK} (hr : Room 2 (XB P w K mg base N_is_span "is_span" (defScope s_is_span) fa cdv A outer s H EE).A) (tk : L2N.Takes (XB P w K mg base N_is_span "is_span" (defScope s_is_span) fa cdv A outer s H EE) (WB EE)) : PSs (XB P w K mg base N_is_span "is_span" (defScope s_is_span) fa cdv A outer s H EE) (defBody s_is_span) (tDS (RC0 K mg) (WB EE) b_is_span) :=
  (ds_cons (ds_if (PW.pt (dw_or (dt_not (dt_truth (d_isI (by rfl) (fE E (by decide +kernel)) (d_var 0 (pv 0)) (pe_bltn (v := .ty "tuple") (by rfl) (fE E (by decide +kernel)) PyProof.Rows.Boot.«tuple» (by rfl)) (.ty _) (kt_tuple E)))) (dw_or (dt_cmp (cNe (by exact rmOf hr)) (d_blt1 len_ok call_len (by rfl) (fE E (by decide +kernel)) PyProof.Rows.Boot.«len» (d_var 0 (pv 0))) d_int rfl) (dw_or1 (dt_not (dt_truth (d_call (ok_is_name E) hr (by decide) tk (by rfl) (da_cons (d_ix (by exact rmOf hr) (d_var 0 (pv 0)) d_int (fun _ _ => rfl)) da_nil))))))))
  (ds_one (ds_ret d_bl))
  ds_nil)
  (ds_one (ds_ret (d_and (d_call (ok_is_within E) hr (by decide) tk (by rfl) (da_cons (d_ix (by exact rmOf hr) (d_var 0 (pv 0)) d_int (fun _ _ => rfl)) (da_cons d_int (da_cons (d_gI (by rfl) (gc_POOL E)) da_nil)))) (d_and (d_call (ok_is_within E) hr (by decide) tk (by rfl) (da_cons (d_ix (by exact rmOf hr) (d_var 0 (pv 0)) d_int (fun _ _ => rfl)) (da_cons d_int (da_cons (d_gI (by rfl) (gc_POOL E)) da_nil)))) (d_one (d_cmp (cLt (by exact rmOf hr)) (d_ix (by exact rmOf hr) (d_var 0 (pv 0)) d_int (fun _ _ => rfl)) (d_ix (by exact rmOf hr) (d_var 0 (pv 0)) d_int (fun _ _ => rfl)) rfl)))))))
theorem ok_is_span (E : Ms.Env fb fn K mg base) : Def P w K mg base "is_span" 3 1 m_is_span := by
  obtain ⟨fd, F⟩ := E.c.def_ 12 (d := d_is_span) rfl
  exact ⟨fun ds G h => runFn_len ds G h, He.ga K "is_span", fd, ["thing"], fnD F sc_is_span (by decide) (fun cdv A outer s H EE hr tk => bd_is_span E hr tk), (gE E (by decide +kernel)), F.kp, FunD.bindsN (ps := ["thing"]) F fun _ _ _ _ _ _ us hl => match us, hl with | [_], _ => rfl⟩
/-! ### is_id -/
def N_is_id : List Str := ["thing"]
theorem sc_is_id : FnScope N_is_id ["thing"] (defScope s_is_id) := ⟨rfl, rfl, rfl, by decide +kernel, rfl, by decide +kernel, by decide +kernel⟩
def b_is_id : M Fl := (M.seq (M.cond (M.or2 (M.not (M.truth (M.isI kf_tuple (M.var 0)))) (M.bool (M.op2 fNe (M.op1 fLen (M.var 0)) (M.lit (.int 2)))))
  (M.ret (M.lit (.bl false)))
  (pure .nx))
  (M.ret (M.andV (M.call m_is_name [(M.op2 fIx (M.var 0) (M.lit (.int 0)))]) (M.call m_is_within [(M.op2 fIx (M.var 0) (M.lit (.int 1))), (M.lit (.int 0)), (M.lit (.int 999999))]))))
def m_is_id : Fn := runFn 1 1 b_is_id
theorem bd_is_id (E : Ms.Env fb fn K mg base) {fa : Addr} {cdv : Value} {A : Around} {outer : List PySem.Env} {s : Shared} {H : Hp} {EE : XK} (hr : Room 2 (XB P w K mg base N_is_id "is_id" (defScope s_is_id) fa cdv A outer s H EE).A) (tk : L2N.Takes (XB P w K mg base N_is_id "is_id" (defScope s_is_id) fa cdv A outer s H EE) (WB EE)) : PSs (XB P w K mg base N_is_id "is_id" (defScope s_is_id) fa cdv A outer s H EE) (defBody s_is_id) (tDS (RC0 K mg) (WB EE) b_is_id) :=
  (ds_cons (ds_if (PW.pt (dw_or (dt_not (dt_truth (d_isI (by rfl) (fE E (by decide +kernel)) (d_var 0 (pv 0)) (pe_bltn (v := .ty "tuple") (by rfl) (fE E (by decide +kernel)) PyProof.Rows.Boot.«tuple» (by rfl)) (.ty _) (kt_tuple E)))) (dw_or1 (dt_cmp (cNe (by exact rmOf hr)) (d_blt1 len_ok call_len (by rfl) (fE E (by decide +kernel)) PyProof.Rows.Boot.«len» (d_var 0 (pv 0))) d_int rfl))))
  (ds_one (ds_ret d_bl))
  ds_nil)
  (ds_one (ds_ret (d_and (d_call (ok_is_name E) hr (by decide) tk (by rfl) (da_cons (d_ix (by exact rmOf hr) (d_var 0 (pv 0)) d_int (fun _ _ => rfl)) da_nil)) (d_one (d_call (ok_is_within E) hr (by decide) tk (by rfl) (da_cons (d_ix (by exact rmOf hr) (d_var 0 (pv 0)) d_int (fun _ _ => rfl)) (da_cons d_int (da_cons (d_gI (by rfl) (gc_MOST_NUMBER E)) da_nil)))))))))
theorem ok_is_id (E : Ms.Env fb fn K mg base) : Def P w K mg base "is_id" 3 1 m_is_id := by
  obtain ⟨fd, F⟩ := E.c.def_ 18 (d := d_is_id) rfl
  exact ⟨fun ds G h => runFn_len ds G h, He.ga K "is_id", fd, ["thing"], fnD F sc_is_id (by decide) (fun cdv A outer s H EE hr tk => bd_is_id E hr tk), (gE E (by decide +kernel)), F.kp, FunD.bindsN (ps := ["thing"]) F fun _ _ _ _ _ _ us hl => match us, hl with | [_], _ => rfl⟩
/-! ### is_pour -/
def N_is_pour : List Str := ["thing"]
theorem sc_is_pour : FnScope N_is_pour ["thing"] (defScope s_is_pour) := ⟨rfl, rfl, rfl, by decide +kernel, rfl, by decide +kernel, by decide +kernel⟩
def b_is_pour : M Fl := (M.seq (M.cond (M.or2 (M.bool (M.op2 fNe (M.op1 fLen (M.var 0)) (M.lit (.int 4)))) (M.or2 (M.not (M.truth (M.call m_is_name [(M.op2 fIx (M.var 0) (M.lit (.int 1)))]))) (M.not (M.truth (M.call m_is_within [(M.op2 fIx (M.var 0) (M.lit (.int 2))), (M.lit (.int 0)), (M.lit (.int 999999))])))))
  (M.ret (M.lit (.bl false)))
  (pure .nx))
  (M.ret (M.andV (M.call m_is_poured [(M.op2 fIx (M.var 0) (M.lit (.int 3)))]) (M.op2 (fInt gLe) (M.op2 fAdd (M.op2 fIx (M.var 0) (M.lit (.int 2))) (M.op1 fLen (M.op2 fIx (M.var 0) (M.lit (.int 3))))) (M.lit (.int 1000000))))))
def m_is_pour : Fn := runFn 1 1 b_is_pour
theorem bd_is_pour (E : Ms.Env fb fn K mg base) {fa : Addr} {cdv : Value} {A : Around} {outer : List PySem.Env} {s : Shared} {H : Hp} {EE : XK} (hr : Room 2 (XB P w K mg base N_is_pour "is_pour" (defScope s_is_pour) fa cdv A outer s H EE).A) (tk : L2N.Takes (XB P w K mg base N_is_pour "is_pour" (defScope s_is_pour) fa cdv A outer s H EE) (WB EE)) : PSs (XB P w K mg base N_is_pour "is_pour" (defScope s_is_pour) fa cdv A outer s H EE) (defBody s_is_pour) (tDS (RC0 K mg) (WB EE) b_is_pour) :=
  (ds_cons (ds_if (PW.pt (dw_or (dt_cmp (cNe (by exact rmOf hr)) (d_blt1 len_ok call_len (by rfl) (fE E (by decide +kernel)) PyProof.Rows.Boot.«len» (d_var 0 (pv 0))) d_int rfl) (dw_or (dt_not (dt_truth (d_call (ok_is_name E) hr (by decide) tk (by rfl) (da_cons (d_ix (by exact rmOf hr) (d_var 0 (pv 0)) d_int (fun _ _ => rfl)) da_nil)))) (dw_or1 (dt_not (dt_truth (d_call (ok_is_within E) hr (by decide) tk (by rfl) (da_cons (d_ix (by exact rmOf hr) (d_var 0 (pv 0)) d_int (fun _ _ => rfl)) (da_cons d_int (da_cons (d_gI (by rfl) (gc_MOST_NUMBER E)) da_nil))))))))))
  (ds_one (ds_ret d_bl))
  ds_nil)
  (ds_one (ds_ret (d_and (d_call (ok_is_poured E) hr (by decide) tk (by rfl) (da_cons (d_ix (by exact rmOf hr) (d_var 0 (pv 0)) d_int (fun _ _ => rfl)) da_nil)) (d_one (d_cmp cLe (d_add (d_ix (by exact rmOf hr) (d_var 0 (pv 0)) d_int (fun _ _ => rfl)) (d_blt1 len_ok call_len (by rfl) (fE E (by decide +kernel)) PyProof.Rows.Boot.«len» (d_ix (by exact rmOf hr) (d_var 0 (pv 0)) d_int (fun _ _ => rfl)))) (d_gI (by rfl) (gc_POOL E)) rfl))))))
theorem ok_is_pour (E : Ms.Env fb fn K mg base) : Def P w K mg base "is_pour" 3 1 m_is_pour := by
  obtain ⟨fd, F⟩ := E.c.def_ 22 (d := d_is_pour) rfl
  exact ⟨fun ds G h => runFn_len ds G h, He.ga K "is_pour", fd, ["thing"], fnD F sc_is_pour (by decide) (fun cdv A outer s H EE hr tk => bd_is_pour E hr tk), (gE E (by decide +kernel)), F.kp, FunD.bindsN (ps := ["thing"]) F fun _ _ _ _ _ _ us hl => match us, hl with | [_], _ => rfl⟩
/-! ### records_text -/
def N_records_text : List Str := ["records", "record"]
theorem sc_records_text : FnScope N_records_text ["records"] (defScope s_records_text) := ⟨rfl, rfl, rfl, by decide +kernel, rfl, by decide +kernel, by decide +kernel⟩
def c_records_text_0 : M (List D) := (M.comp [1] (M.items (M.var 0)) (.one 1) (pure true) (M.call m_record_text [(M.var 1)]))
def b_records_text : M Fl := (M.ret (M.join (M.lit (.str "\n")) (M.lst c_records_text_0)))
def m_records_text : Fn := runFn 2 1 b_records_text
theorem bd_records_text (E : Ms.Env fb fn K mg base) {fa : Addr} {cdv : Value} {A : Around} {outer : List PySem.Env} {s : Shared} {H : Hp} {EE : XK} (hr : Room 2 (XB P w K mg base N_records_text "records_text" (defScope s_records_text) fa cdv A outer s H EE).A) (tk : L2N.Takes (XB P w K mg base N_records_text "records_text" (defScope s_records_text) fa cdv A outer s H EE) (WB EE)) : PSs (XB P w K mg base N_records_text "records_text" (defScope s_records_text) fa cdv A outer s H EE) (defBody s_records_text) (tDS (RC0 K mg) (WB EE) b_records_text) :=
  (ds_one (ds_ret (d_join d_str (d_fr (df_comp (own := [("record", 1)]) rfl sc_records_text.nd (di_val (d_var 0 (pv 0))) (by show BlkOk N_records_text (defScope s_records_text) _ _; exact ⟨rfl, by decide +kernel, by decide +kernel, by decide +kernel, by decide +kernel⟩) rfl (fun _ _ _ _ _ => (tg_one sc_records_text.nd rfl (locOf rfl))) (fun _ _ _ _ _ => dts_nil) (fun _ _ _ _ _ => (d_call (ok_record_text E) (by exact hr) (by decide) takes0 (by rfl) (da_cons (d_var 1 (pv 1)) da_nil))))))))
theorem ok_records_text (E : Ms.Env fb fn K mg base) : Def P w K mg base "records_text" 3 1 m_records_text := by
  obtain ⟨fd, F⟩ := E.c.def_ 30 (d := d_records_text) rfl
  exact ⟨fun ds G h => runFn_len ds G h, He.ga K "records_text", fd, ["records"], fnD F sc_records_text (by decide) (fun cdv A outer s H EE hr tk => bd_records_text E hr tk), (gE E (by decide +kernel)), F.kp, FunD.bindsN (ps := ["records"]) F fun _ _ _ _ _ _ us hl => match us, hl with | [_], _ => rfl⟩
/-! ### ids_of -/
def N_ids_of : List Str := ["word", "part"]
theorem sc_ids_of : FnScope N_ids_of ["word"] (defScope s_ids_of) := ⟨rfl, rfl, rfl, by decide +kernel, rfl, by decide +kernel, by decide +kernel⟩
def c_ids_of_0 : M (List D) := (M.comp [1] (M.items (M.split (M.var 0) (M.lit (.str "+")))) (.one 1) (pure true) (M.call m_id_of [(M.var 1)]))
def b_ids_of : M Fl := (M.ret (M.ite (M.bool (M.op2 fEq (M.var 0) (M.lit (.str "-")))) (M.tup []) (M.op1 fTuple (M.lst c_ids_of_0))))
def m_ids_of : Fn := runFn 2 1 b_ids_of
theorem bd_ids_of (E : Ms.Env fb fn K mg base) {fa : Addr} {cdv : Value} {A : Around} {outer : List PySem.Env} {s : Shared} {H : Hp} {EE : XK} (hr : Room 2 (XB P w K mg base N_ids_of "ids_of" (defScope s_ids_of) fa cdv A outer s H EE).A) (tk : L2N.Takes (XB P w K mg base N_ids_of "ids_of" (defScope s_ids_of) fa cdv A outer s H EE) (WB EE)) : PSs (XB P w K mg base N_ids_of "ids_of" (defScope s_ids_of) fa cdv A outer s H EE) (defBody s_ids_of) (tDS (RC0 K mg) (WB EE) b_ids_of) :=
  (ds_one (ds_ret (d_if (dt_cmp (cEq (by exact rmOf hr)) (d_var 0 (pv 0)) (d_gS (by rfl) (gc_NONE E)) rfl) (d_tup da_nil) (d_bltT1 tuple_ok call_tuple_of (by rfl) (fE E (by decide +kernel)) PyProof.Rows.Boot.«tuple» (d_fr (df_comp (own := [("part", 1)]) rfl sc_ids_of.nd (di_val (d_split (d_var 0 (pv 0)) d_str)) (by show BlkOk N_ids_of (defScope s_ids_of) _ _; exact ⟨rfl, by decide +kernel, by decide +kernel, by decide +kernel, by decide +kernel⟩) rfl (fun _ _ _ _ _ => (tg_one sc_ids_of.nd rfl (locOf rfl))) (fun _ _ _ _ _ => dts_nil) (fun _ _ _ _ _ => (d_call (ok_id_of E) (by exact hr) (by decide) takes0 (by rfl) (da_cons (d_var 1 (pv 1)) da_nil)))))))))
theorem ok_ids_of (E : Ms.Env fb fn K mg base) : Def P w K mg base "ids_of" 3 1 m_ids_of := by
  obtain ⟨fd, F⟩ := E.c.def_ 34 (d := d_ids_of) rfl
  exact ⟨fun ds G h => runFn_len ds G h, He.ga K "ids_of", fd, ["word"], fnD F sc_ids_of (by decide) (fun cdv A outer s H EE hr tk => bd_ids_of E hr tk), (gE E (by decide +kernel)), F.kp, FunD.bindsN (ps := ["word"]) F fun _ _ _ _ _ _ us hl => match us, hl with | [_], _ => rfl⟩
/-! ### _law_span -/
def N__law_span : List Str := ["bag", "author", "many", "first"]
theorem sc__law_span : FnScope N__law_span ["bag"] (defScope s__law_span) := ⟨rfl, rfl, rfl, by decide +kernel, rfl, by decide +kernel, by decide +kernel⟩
def b__law_span : M Fl := (M.seq (M.set 1 (M.call m__law_of [(M.var 0), (M.lst (M.disp [(M.lit (.str "ann")), (M.lit (.str "ann")), (M.lit (.str "bo")), (M.lit (.str "cy")), (M.call m__law_name [(M.var 0)])]))]))
  (M.seq (M.set 2 (M.op2 fIx (M.lst (M.disp [(M.lit (.int 1)), (M.op2 fAdd (M.lit (.int 1)) (M.call m__law_take [(M.var 0), (M.lit (.int 4))])), (M.op2 fAdd (M.lit (.int 1)) (M.call m__law_take [(M.var 0), (M.lit (.int 12))]))])) (M.call m__law_take [(M.var 0), (M.lit (.int 3))])))
  (M.seq (M.set 3 (M.op2 fIx (M.lst (M.disp [(M.call m__law_take [(M.var 0), (M.lit (.int 9))]), (M.call m__law_take [(M.var 0), (M.lit (.int 40))]), (M.op2 (fInt gSub) (M.op2 (fInt gPow) (M.lit (.int 10)) (M.lit (.int 6))) (M.var 2))])) (M.op2 (fInt gMin) (M.lit (.int 2)) (M.op2 (fInt gDiv) (M.call m__law_take [(M.var 0), (M.lit (.int 20))]) (M.lit (.int 9))))))
  (M.ret (M.tup [(M.var 1), (M.var 3), (M.op2 fAdd (M.var 3) (M.var 2))])))))
def m__law_span : Fn := runFn 4 1 b__law_span
theorem bd__law_span (E : Ms.Env fb fn K mg base) {fa : Addr} {cdv : Value} {A : Around} {outer : List PySem.Env} {s : Shared} {H : Hp} {EE : XK} (hr : Room 2 (XB P w K mg base N__law_span "_law_span" (defScope s__law_span) fa cdv A outer s H EE).A) (tk : L2N.Takes (XB P w K mg base N__law_span "_law_span" (defScope s__law_span) fa cdv A outer s H EE) (WB EE)) : PSs (XB P w K mg base N__law_span "_law_span" (defScope s__law_span) fa cdv A outer s H EE) (defBody s__law_span) (tDS (RC0 K mg) (WB EE) b__law_span) :=
  (ds_cons (ds_set sc__law_span.nd rfl (locOf rfl) (d_call (ok__law_of E) hr (by decide) tk (by rfl) (da_cons (d_var 0 (pv 0)) (da_cons (d_fr (df_lst (da_cons d_str (da_cons d_str (da_cons d_str (da_cons d_str (da_cons (d_call (ok__law_name E) hr (by decide) tk (by rfl) (da_cons (d_var 0 (pv 0)) da_nil)) da_nil))))))) da_nil))))
  (ds_cons (ds_set sc__law_span.nd rfl (locOf rfl) (d_ix (by exact rmOf hr) (d_fr (df_lst (da_cons d_int (da_cons (d_add d_int (d_call (ok__law_take E) hr (by decide) tk (by rfl) (da_cons (d_var 0 (pv 0)) (da_cons d_int da_nil)))) (da_cons (d_add d_int (d_call (ok__law_take E) hr (by decide) tk (by rfl) (da_cons (d_var 0 (pv 0)) (da_cons d_int da_nil)))) da_nil))))) (d_call (ok__law_take E) hr (by decide) tk (by rfl) (da_cons (d_var 0 (pv 0)) (da_cons d_int da_nil))) (fun _ _ => rfl)))
  (ds_cons (ds_set sc__law_span.nd rfl (locOf rfl) (d_ix (by exact rmOf hr) (d_fr (df_lst (da_cons (d_call (ok__law_take E) hr (by decide) tk (by rfl) (da_cons (d_var 0 (pv 0)) (da_cons d_int da_nil))) (da_cons (d_call (ok__law_take E) hr (by decide) tk (by rfl) (da_cons (d_var 0 (pv 0)) (da_cons d_int da_nil))) (da_cons (d_sub (d_pow d_int d_int) (d_var 2 (pv 2))) da_nil))))) (d_blt2 min_ok (call_min2 rfl) (by rfl) (fE E (by decide +kernel)) PyProof.Rows.Boot.«min» d_int (d_fdiv (d_call (ok__law_take E) hr (by decide) tk (by rfl) (da_cons (d_var 0 (pv 0)) (da_cons d_int da_nil))) d_int)) (fun _ _ => rfl)))
  (ds_one (ds_ret (d_tup (da_cons (d_var 1 (pv 1)) (da_cons (d_var 3 (pv 3)) (da_cons (d_add (d_var 3 (pv 3)) (d_var 2 (pv 2))) da_nil)))))))))
theorem ok__law_span (E : Ms.Env fb fn K mg base) : Def P w K mg base "_law_span" 3 1 m__law_span := by
  obtain ⟨fd, F⟩ := E.c.def_ 47 (d := d__law_span) rfl
  exact ⟨fun ds G h => runFn_len ds G h, He.ga K "_law_span", fd, ["bag"], fnD F sc__law_span (by decide) (fun cdv A outer s H EE hr tk => bd__law_span E hr tk), (gE E (by decide +kernel)), F.kp, FunD.bindsN (ps := ["bag"]) F fun _ _ _ _ _ _ us hl => match us, hl with | [_], _ => rfl⟩
/-! ### _law_text -/
def N__law_text : List Str := ["bag", "most", "signs", "turn"]
theorem sc__law_text : FnScope N__law_text ["bag", "most"] (defScope s__law_text) := ⟨rfl, rfl, rfl, by decide +kernel, rfl, by decide +kernel, by decide +kernel⟩
def c__law_text_0 : M (List D) := (M.comp [3] (M.range1 [(M.op2 fAdd (M.lit (.int 1)) (M.call m__law_take [(M.var 0), (M.var 1)]))]) (.one 3) (pure true) (M.call m__law_of [(M.var 0), (M.var 2)]))
def b__law_text : M Fl := (M.seq (M.set 2 (M.lit (.str " abcdefghijklmnop!#$&'()*+,-./019:;<=>?@AZ[]^_{|}~")))
  (M.ret (M.join (M.lit (.str "")) (M.lst c__law_text_0))))
def m__law_text : Fn := runFn 4 2 b__law_text
theorem bd__law_text (E : Ms.Env fb fn K mg base) {fa : Addr} {cdv : Value} {A : Around} {outer : List PySem.Env} {s : Shared} {H : Hp} {EE : XK} (hr : Room 2 (XB P w K mg base N__law_text "_law_text" (defScope s__law_text) fa cdv A outer s H EE).A) (tk : L2N.Takes (XB P w K mg base N__law_text "_law_text" (defScope s__law_text) fa cdv A outer s H EE) (WB EE)) : PSs (XB P w K mg base N__law_text "_law_text" (defScope s__law_text) fa cdv A outer s H EE) (defBody s__law_text) (tDS (RC0 K mg) (WB EE) b__law_text) :=
  (ds_cons (ds_set sc__law_text.nd rfl (locOf rfl) d_str)
  (ds_one (ds_ret (d_join d_str (d_fr (df_comp (own := [("turn", 3)]) rfl sc__law_text.nd (di_range1 (by rfl) (fE E (by decide +kernel)) (da_cons (d_add d_int (d_call (ok__law_take E) hr (by decide) tk (by rfl) (da_cons (d_var 0 (pv 0)) (da_cons (d_var 1 (pv 1)) da_nil)))) da_nil)) (by show BlkOk N__law_text (defScope s__law_text) _ _; exact ⟨rfl, by decide +kernel, by decide +kernel, by decide +kernel, by decide +kernel⟩) rfl (fun _ _ _ _ _ => (tg_one sc__law_text.nd rfl (locOf rfl))) (fun _ _ _ _ _ => dts_nil) (fun _ _ _ _ _ => (d_call (ok__law_of E) (by exact hr) (by decide) takes0 (by rfl) (da_cons (d_var 0 (pv 0)) (da_cons (d_var 2 (pv 2)) da_nil))))))))))
theorem ok__law_text (E : Ms.Env fb fn K mg base) : Def P w K mg base "_law_text" 3 2 m__law_text := by
  obtain ⟨fd, F⟩ := E.c.def_ 51 (d := d__law_text) rfl
  exact ⟨fun ds G h => runFn_len ds G h, He.ga K "_law_text", fd, ["bag", "most"], fnD F sc__law_text (by decide) (fun cdv A outer s H EE hr tk => bd__law_text E hr tk), (gE E (by decide +kernel)), F.kp, FunD.bindsN (ps := ["bag", "most"]) F fun _ _ _ _ _ _ us hl => match us, hl with | [_, _], _ => rfl⟩
/-! ### _law_id -/
def N__law_id : List Str := ["bag"]
theorem sc__law_id : FnScope N__law_id ["bag"] (defScope s__law_id) := ⟨rfl, rfl, rfl, by decide +kernel, rfl, by decide +kernel, by decide +kernel⟩
def b__law_id : M Fl := (M.ret (M.tup [(M.call m__law_of [(M.var 0), (M.lst (M.disp [(M.lit (.str "ann")), (M.lit (.str "bo")), (M.lit (.str "cy"))]))]), (M.op2 fIx (M.lst (M.disp [(M.call m__law_take [(M.var 0), (M.lit (.int 4))]), (M.call m__law_take [(M.var 0), (M.lit (.int 10))]), (M.lit (.int 999999))])) (M.op2 (fInt gDiv) (M.call m__law_take [(M.var 0), (M.lit (.int 7))]) (M.lit (.int 3))))]))
def m__law_id : Fn := runFn 1 1 b__law_id
theorem bd__law_id (E : Ms.Env fb fn K mg base) {fa : Addr} {cdv : Value} {A : Around} {outer : List PySem.Env} {s : Shared} {H : Hp} {EE : XK} (hr : Room 2 (XB P w K mg base N__law_id "_law_id" (defScope s__law_id) fa cdv A outer s H EE).A) (tk : L2N.Takes (XB P w K mg base N__law_id "_law_id" (defScope s__law_id) fa cdv A outer s H EE) (WB EE)) : PSs (XB P w K mg base N__law_id "_law_id" (defScope s__law_id) fa cdv A outer s H EE) (defBody s__law_id) (tDS (RC0 K mg) (WB EE) b__law_id) :=
  (ds_one (ds_ret (d_tup (da_cons (d_call (ok__law_of E) hr (by decide) tk (by rfl) (da_cons (d_var 0 (pv 0)) (da_cons (d_fr (df_lst (da_cons d_str (da_cons d_str (da_cons d_str da_nil))))) da_nil))) (da_cons (d_ix (by exact rmOf hr) (d_fr (df_lst (da_cons (d_call (ok__law_take E) hr (by decide) tk (by rfl) (da_cons (d_var 0 (pv 0)) (da_cons d_int da_nil))) (da_cons (d_call (ok__law_take E) hr (by decide) tk (by rfl) (da_cons (d_var 0 (pv 0)) (da_cons d_int da_nil))) (da_cons d_int da_nil))))) (d_fdiv (d_call (ok__law_take E) hr (by decide) tk (by rfl) (da_cons (d_var 0 (pv 0)) (da_cons d_int da_nil))) d_int) (fun _ _ => rfl)) da_nil)))))
theorem ok__law_id (E : Ms.Env fb fn K mg base) : Def P w K mg base "_law_id" 3 1 m__law_id := by
  obtain ⟨fd, F⟩ := E.c.def_ 52 (d := d__law_id) rfl
  exact ⟨fun ds G h => runFn_len ds G h, He.ga K "_law_id", fd, ["bag"], fnD F sc__law_id (by decide) (fun cdv A outer s H EE hr tk => bd__law_id E hr tk), (gE E (by decide +kernel)), F.kp, FunD.bindsN (ps := ["bag"]) F fun _ _ _ _ _ _ us hl => match us, hl with | [_], _ => rfl⟩
/-! ### is_page -/
def N_is_page : List Str := ["thing", "span", "one", "other"]
theorem sc_is_page : FnScope N_is_page ["thing"] (defScope s_is_page) := ⟨rfl, rfl, rfl, by decide +kernel, rfl, by decide +kernel, by decide +kernel⟩
def c_is_page_0 : M (List D) := (M.comp [2, 3] (M.zip [(M.var 0), (M.slice (M.var 0) (some (M.lit (.int 1))) none)]) (.many [2, 3]) (pure true) (M.call m_go_on [(M.var 2), (M.var 3)]))
def c_is_page_1 : M (List D) := (M.comp [1] (M.items (M.var 0)) (.one 1) (pure true) (M.call m_is_span [(M.var 1)]))
def b_is_page : M Fl := (M.seq (M.cond (M.or2 (M.not (M.truth (M.isI kf_tuple (M.var 0)))) (M.or2 (M.bool (M.op2 (fInt gGt) (M.op1 fLen (M.var 0)) (M.lit (.int 60)))) (M.not (M.truth (M.op1 fAll (M.lst c_is_page_1))))))
  (M.ret (M.lit (.bl false)))
  (pure .nx))
  (M.ret (M.andV (M.op2 (fInt gLe) (M.call m_long [(M.var 0)]) (M.lit (.int 2000))) (M.notV (M.op1 fAny (M.lst c_is_page_0))))))
def m_is_page : Fn := runFn 4 1 b_is_page
theorem bd_is_page (E : Ms.Env fb fn K mg base) {fa : Addr} {cdv : Value} {A : Around} {outer : List PySem.Env} {s : Shared} {H : Hp} {EE : XK} (hr : Room 3 (XB P w K mg base N_is_page "is_page" (defScope s_is_page) fa cdv A outer s H EE).A) (tk : L2N.Takes (XB P w K mg base N_is_page "is_page" (defScope s_is_page) fa cdv A outer s H EE) (WB EE)) : PSs (XB P w K mg base N_is_page "is_page" (defScope s_is_page) fa cdv A outer s H EE) (defBody s_is_page) (tDS (RC0 K mg) (WB EE) b_is_page) :=
  (ds_cons (ds_if (PW.pt (dw_or (dt_not (dt_truth (d_isI (by rfl) (fE E (by decide +kernel)) (d_var 0 (pv 0)) (pe_bltn (v := .ty "tuple") (by rfl) (fE E (by decide +kernel)) PyProof.Rows.Boot.«tuple» (by rfl)) (.ty _) (kt_tuple E)))) (dw_or (dt_cmp cGt (d_blt1 len_ok call_len (by rfl) (fE E (by decide +kernel)) PyProof.Rows.Boot.«len» (d_var 0 (pv 0))) (d_gI (by rfl) (gc_MOST_SPANS E)) rfl) (dw_or1 (dt_not (dt_truth (d_blt1 all_ok (cr_all rfl) (by rfl) (fE E (by decide +kernel)) PyProof.Rows.Boot.«all» (d_fr (df_comp (own := [("span", 1)]) rfl sc_is_page.nd (di_val (d_var 0 (pv 0))) (by show BlkOk N_is_page (defScope s_is_page) _ _; exact ⟨rfl, by decide +kernel, by decide +kernel, by decide +kernel, by decide +kernel⟩) rfl (fun _ _ _ _ _ => (tg_one sc_is_page.nd rfl (locOf rfl))) (fun _ _ _ _ _ => dts_nil) (fun _ _ _ _ _ => (d_call (ok_is_span E) (by exact hr) (by decide) takes0 (by rfl) (da_cons (d_var 1 (pv 1)) da_nil))))))))))))
  (ds_one (ds_ret d_bl))
  ds_nil)
  (ds_one (ds_ret (d_and (d_cmp cLe (d_call (ok_long E) hr (by decide) tk (by rfl) (da_cons (d_var 0 (pv 0)) da_nil)) (d_gI (by rfl) (gc_MOST_SIGNS E)) rfl) (d_one (d_not (d_blt1 any_ok (cr_any rfl) (by rfl) (fE E (by decide +kernel)) PyProof.Rows.Boot.«any» (d_fr (df_comp (own := [("one", 2), ("other", 3)]) rfl sc_is_page.nd (di_zip (by rfl) (fE E (by decide +kernel)) (da_cons (d_var 0 (pv 0)) (da_cons (d_slice (d_var 0 (pv 0)) (do_some d_int) do_none) da_nil))) (by show BlkOk N_is_page (defScope s_is_page) _ _; exact ⟨rfl, by decide +kernel, by decide +kernel, by decide +kernel, by decide +kernel⟩) rfl (fun _ _ _ _ _ => (pg_tup rfl (tgs_cons (tg_one sc_is_page.nd rfl (locOf rfl)) (tgs_cons (tg_one sc_is_page.nd rfl (locOf rfl)) tgs_nil)))) (fun _ _ _ _ _ => dts_nil) (fun _ _ _ _ _ => (d_call (ok_go_on E) (by exact hr) (by decide) takes0 (by rfl) (da_cons (d_var 2 (pv 2)) (da_cons (d_var 3 (pv 3)) da_nil)))))))))))))
theorem ok_is_page (E : Ms.Env fb fn K mg base) : Def P w K mg base "is_page" 4 1 m_is_page := by
  obtain ⟨fd, F⟩ := E.c.def_ 15 (d := d_is_page) rfl
  exact ⟨fun ds G h => runFn_len ds G h, He.ga K "is_page", fd, ["thing"], fnD F sc_is_page (by decide) (fun cdv A outer s H EE hr tk => bd_is_page E hr tk), (gE E (by decide +kernel)), F.kp, FunD.bindsN (ps := ["thing"]) F fun _ _ _ _ _ _ us hl => match us, hl with | [_], _ => rfl⟩
/-! ### is_ends -/
def N_is_ends : List Str := ["thing", "one", "other", "span"]
theorem sc_is_ends : FnScope N_is_ends ["thing"] (defScope s_is_ends) := ⟨rfl, rfl, rfl, by decide +kernel, rfl, by decide +kernel, by decide +kernel⟩
def c_is_ends_0 : M (List D) := (M.comp [1, 2] (M.zip [(M.var 0), (M.slice (M.var 0) (some (M.lit (.int 1))) none)]) (.many [1, 2]) (pure true) (M.call m_is_apart [(M.var 1), (M.var 2)]))
def c_is_ends_1 : M (List D) := (M.comp [3] (M.items (M.var 0)) (.one 3) (pure true) (M.call m_is_span [(M.var 3)]))
def b_is_ends : M Fl := (M.seq (M.cond (M.or2 (M.not (M.truth (M.isI kf_tuple (M.var 0)))) (M.or2 (M.bool (M.op2 (fInt gGt) (M.op1 fLen (M.var 0)) (M.lit (.int 60)))) (M.not (M.truth (M.op1 fAll (M.lst c_is_ends_1))))))
  (M.ret (M.lit (.bl false)))
  (pure .nx))
  (M.ret (M.op1 fAll (M.lst c_is_ends_0))))
def m_is_ends : Fn := runFn 4 1 b_is_ends
theorem bd_is_ends (E : Ms.Env fb fn K mg base) {fa : Addr} {cdv : Value} {A : Around} {outer : List PySem.Env} {s : Shared} {H : Hp} {EE : XK} (hr : Room 3 (XB P w K mg base N_is_ends "is_ends" (defScope s_is_ends) fa cdv A outer s H EE).A) (tk : L2N.Takes (XB P w K mg base N_is_ends "is_ends" (defScope s_is_ends) fa cdv A outer s H EE) (WB EE)) : PSs (XB P w K mg base N_is_ends "is_ends" (defScope s_is_ends) fa cdv A outer s H EE) (defBody s_is_ends) (tDS (RC0 K mg) (WB EE) b_is_ends) :=
  (ds_cons (ds_if (PW.pt (dw_or (dt_not (dt_truth (d_isI (by rfl) (fE E (by decide +kernel)) (d_var 0 (pv 0)) (pe_bltn (v := .ty "tuple") (by rfl) (fE E (by decide +kernel)) PyProof.Rows.Boot.«tuple» (by rfl)) (.ty _) (kt_tuple E)))) (dw_or (dt_cmp cGt (d_blt1 len_ok call_len (by rfl) (fE E (by decide +kernel)) PyProof.Rows.Boot.«len» (d_var 0 (pv 0))) (d_gI (by rfl) (gc_MOST_SPANS E)) rfl) (dw_or1 (dt_not (dt_truth (d_blt1 all_ok (cr_all rfl) (by rfl) (fE E (by decide +kernel)) PyProof.Rows.Boot.«all» (d_fr (df_comp (own := [("span", 3)]) rfl sc_is_ends.nd (di_val (d_var 0 (pv 0))) (by show BlkOk N_is_ends (defScope s_is_ends) _ _; exact ⟨rfl, by decide +kernel, by decide +kernel, by decide +kernel, by decide +kernel⟩) rfl (fun _ _ _ _ _ => (tg_one sc_is_ends.nd rfl (locOf rfl))) (fun _ _ _ _ _ => dts_nil) (fun _ _ _ _ _ => (d_call (ok_is_span E) (by exact hr) (by decide) takes0 (by rfl) (da_cons (d_var 3 (pv 3)) da_nil))))))))))))
  (ds_one (ds_ret d_bl))
  ds_nil)
  (ds_one (ds_ret (d_blt1 all_ok (cr_all rfl) (by rfl) (fE E (by decide +kernel)) PyProof.Rows.Boot.«all» (d_fr (df_comp (own := [("one", 1), ("other", 2)]) rfl sc_is_ends.nd (di_zip (by rfl) (fE E (by decide +kernel)) (da_cons (d_var 0 (pv 0)) (da_cons (d_slice (d_var 0 (pv 0)) (do_some d_int) do_none) da_nil))) (by show BlkOk N_is_ends (defScope s_is_ends) _ _; exact ⟨rfl, by decide +kernel, by decide +kernel, by decide +kernel, by decide +kernel⟩) rfl (fun _ _ _ _ _ => (pg_tup rfl (tgs_cons (tg_one sc_is_ends.nd rfl (locOf rfl)) (tgs_cons (tg_one sc_is_ends.nd rfl (locOf rfl)) tgs_nil)))) (fun _ _ _ _ _ => dts_nil) (fun _ _ _ _ _ => (d_call (ok_is_apart E) (by exact hr) (by decide) takes0 (by rfl) (da_cons (d_var 1 (pv 1)) (da_cons (d_var 2 (pv 2)) da_nil))))))))))
theorem ok_is_ends (E : Ms.Env fb fn K mg base) : Def P w K mg base "is_ends" 4 1 m_is_ends := by
  obtain ⟨fd, F⟩ := E.c.def_ 17 (d := d_is_ends) rfl
  exact ⟨fun ds G h => runFn_len ds G h, He.ga K "is_ends", fd, ["thing"], fnD F sc_is_ends (by decide) (fun cdv A outer s H EE hr tk => bd_is_ends E hr tk), (gE E (by decide +kernel)), F.kp, FunD.bindsN (ps := ["thing"]) F fun _ _ _ _ _ _ us hl => match us, hl with | [_], _ => rfl⟩
/-! ### are_parents -/
def N_are_parents : List Str := ["thing", "one", "other"]
theorem sc_are_parents : FnScope N_are_parents ["thing"] (defScope s_are_parents) := ⟨rfl, rfl, rfl, by decide +kernel, rfl, by decide +kernel, by decide +kernel⟩
def c_are_parents_0 : M (List D) := (M.comp [1, 2] (M.zip [(M.var 0), (M.slice (M.var 0) (some (M.lit (.int 1))) none)]) (.many [1, 2]) (pure true) (M.op2 fLt (M.var 1) (M.var 2)))
def c_are_parents_1 : M (List D) := (M.comp [1] (M.items (M.var 0)) (.one 1) (pure true) (M.call m_is_id [(M.var 1)]))
def b_are_parents : M Fl := (M.seq (M.cond (M.or2 (M.not (M.truth (M.isI kf_tuple (M.var 0)))) (M.or2 (M.bool (M.op2 (fInt gGt) (M.op1 fLen (M.var 0)) (M.lit (.int 2)))) (M.not (M.truth (M.op1 fAll (M.lst c_are_parents_1))))))
  (M.ret (M.lit (.bl false)))
  (pure .nx))
  (M.ret (M.op1 fAll (M.lst c_are_parents_0))))
def m_are_parents : Fn := runFn 3 1 b_are_parents
theorem bd_are_parents (E : Ms.Env fb fn K mg base) {fa : Addr} {cdv : Value} {A : Around} {outer : List PySem.Env} {s : Shared} {H : Hp} {EE : XK} (hr : Room 3 (XB P w K mg base N_are_parents "are_parents" (defScope s_are_parents) fa cdv A outer s H EE).A) (tk : L2N.Takes (XB P w K mg base N_are_parents "are_parents" (defScope s_are_parents) fa cdv A outer s H EE) (WB EE)) : PSs (XB P w K mg base N_are_parents "are_parents" (defScope s_are_parents) fa cdv A outer s H EE) (defBody s_are_parents) (tDS (RC0 K mg) (WB EE) b_are_parents) :=
  (ds_cons (ds_if (PW.pt (dw_or (dt_not (dt_truth (d_isI (by rfl) (fE E (by decide +kernel)) (d_var 0 (pv 0)) (pe_bltn (v := .ty "tuple") (by rfl) (fE E (by decide +kernel)) PyProof.Rows.Boot.«tuple» (by rfl)) (.ty _) (kt_tuple E)))) (dw_or (dt_cmp cGt (d_blt1 len_ok call_len (by rfl) (fE E (by decide +kernel)) PyProof.Rows.Boot.«len» (d_var 0 (pv 0))) (d_gI (by rfl) (gc_MOST_PARENTS E)) rfl) (dw_or1 (dt_not (dt_truth (d_blt1 all_ok (cr_all rfl) (by rfl) (fE E (by decide +kernel)) PyProof.Rows.Boot.«all» (d_fr (df_comp (own := [("one", 1)]) rfl sc_are_parents.nd (di_val (d_var 0 (pv 0))) (by show BlkOk N_are_parents (defScope s_are_parents) _ _; exact ⟨rfl, by decide +kernel, by decide +kernel, by decide +kernel, by decide +kernel⟩) rfl (fun _ _ _ _ _ => (tg_one sc_are_parents.nd rfl (locOf rfl))) (fun _ _ _ _ _ => dts_nil) (fun _ _ _ _ _ => (d_call (ok_is_id E) (by exact hr) (by decide) takes0 (by rfl) (da_cons (d_var 1 (pv 1)) da_nil))))))))))))
  (ds_one (ds_ret d_bl))
  ds_nil)
  (ds_one (ds_ret (d_blt1 all_ok (cr_all rfl) (by rfl) (fE E (by decide +kernel)) PyProof.Rows.Boot.«all» (d_fr (df_comp (own := [("one", 1), ("other", 2)]) rfl sc_are_parents.nd (di_zip (by rfl) (fE E (by decide +kernel)) (da_cons (d_var 0 (pv 0)) (da_cons (d_slice (d_var 0 (pv 0)) (do_some d_int) do_none) da_nil))) (by show BlkOk N_are_parents (defScope s_are_parents) _ _; exact ⟨rfl, by decide +kernel, by decide +kernel, by decide +kernel, by decide +kernel⟩) rfl (fun _ _ _ _ _ => (pg_tup rfl (tgs_cons (tg_one sc_are_parents.nd rfl (locOf rfl)) (tgs_cons (tg_one sc_are_parents.nd rfl (locOf rfl)) tgs_nil)))) (fun _ _ _ _ _ => dts_nil) (fun _ _ _ _ _ => (d_cmp (cLt (by exact rmOf hr)) (d_var 1 (pv 1)) (d_var 2 (pv 2)) rfl))))))))
theorem ok_are_parents (E : Ms.Env fb fn K mg base) : Def P w K mg base "are_parents" 4 1 m_are_parents := by
  obtain ⟨fd, F⟩ := E.c.def_ 21 (d := d_are_parents) rfl
  exact ⟨fun ds G h => runFn_len ds G h, He.ga K "are_parents", fd, ["thing"], fnD F sc_are_parents (by decide) (fun cdv A outer s H EE hr tk => bd_are_parents E hr tk), (gE E (by decide +kernel)), F.kp, FunD.bindsN (ps := ["thing"]) F fun _ _ _ _ _ _ us hl => match us, hl with | [_], _ => rfl⟩
/-! ### span_of -/
def N_span_of : List Str := ["word", "numbers", "found", "author", "rest", "part"]
theorem sc_span_of : FnScope N_span_of ["word"] (defScope s_span_of) := ⟨rfl, rfl, rfl, by decide +kernel, rfl, by decide +kernel, by decide +kernel⟩
def c_span_of_0 : M (List D) := (M.comp [5] (M.items (M.split (M.join (M.lit (.str ":")) (M.var 4)) (M.lit (.str "-")))) (.one 5) (pure true) (M.call m_number_of [(M.var 5)]))
def b_span_of : M Fl := (M.seq (M.setStar 3 4 (M.split (M.var 0) (M.lit (.str ":"))))
  (M.seq (M.set 1 (M.lst c_span_of_0))
  (M.seq (M.set 2 (M.op2 fAdd (M.tup [(M.var 3)]) (M.op1 fTuple (M.var 1))))
  (M.ret (M.ite (M.truth (M.call m_is_span [(M.var 2)])) (M.var 2) (M.lit .non))))))
def m_span_of : Fn := runFn 6 1 b_span_of
theorem bd_span_of (E : Ms.Env fb fn K mg base) {fa : Addr} {cdv : Value} {A : Around} {outer : List PySem.Env} {s : Shared} {H : Hp} {EE : XK} (hr : Room 3 (XB P w K mg base N_span_of "span_of" (defScope s_span_of) fa cdv A outer s H EE).A) (tk : L2N.Takes (XB P w K mg base N_span_of "span_of" (defScope s_span_of) fa cdv A outer s H EE) (WB EE)) : PSs (XB P w K mg base N_span_of "span_of" (defScope s_span_of) fa cdv A outer s H EE) (defBody s_span_of) (tDS (RC0 K mg) (WB EE) b_span_of) :=
  (ds_cons (ds_setStar rfl sc_span_of.nd rfl rfl (locOf rfl) (locOf rfl) (d_split (d_var 0 (pv 0)) d_str))
  (ds_cons (ds_setComp (own := [("part", 5)]) rfl sc_span_of.nd rfl rfl rfl (di_val (d_split (d_join d_str (d_var 4 (pv 4))) d_str)) (by show BlkOk N_span_of (defScope s_span_of) _ _; exact ⟨rfl, by decide +kernel, by decide +kernel, by decide +kernel, by decide +kernel⟩) rfl (fun _ _ _ _ _ => (tg_one sc_span_of.nd rfl (locOf rfl))) (fun _ _ _ _ _ => dts_nil) (fun _ _ _ _ _ => (d_call (ok_number_of E) (by exact hr) (by decide) takes0 (by rfl) (da_cons (d_var 5 (pv 5)) da_nil))))
  (ds_cons (ds_set sc_span_of.nd rfl (locOf rfl) (d_add (d_tup (da_cons (d_var 3 (pv 3)) da_nil)) (d_bltT1 tuple_ok call_tuple_of (by rfl) (fE E (by decide +kernel)) PyProof.Rows.Boot.«tuple» (d_var 1 (pv 1)))))
  (ds_one (ds_ret (d_if (dt_truth (d_call (ok_is_span E) hr (by decide) tk (by rfl) (da_cons (d_var 2 (pv 2)) da_nil))) (d_var 2 (pv 2)) d_non))))))
theorem ok_span_of (E : Ms.Env fb fn K mg base) : Def P w K mg base "span_of" 4 1 m_span_of := by
  obtain ⟨fd, F⟩ := E.c.def_ 31 (d := d_span_of) rfl
  exact ⟨fun ds G h => runFn_len ds G h, He.ga K "span_of", fd, ["word"], fnD F sc_span_of (by decide) (fun cdv A outer s H EE hr tk => bd_span_of E hr tk), (gE E (by decide +kernel)), F.kp, FunD.bindsN (ps := ["word"]) F fun _ _ _ _ _ _ us hl => match us, hl with | [_], _ => rfl⟩
/-! ### _law_page -/
def N__law_page : List Str := ["bag", "most", "signs", "turn"]
theorem sc__law_page : FnScope N__law_page ["bag", "most"] (defScope s__law_page) := ⟨rfl, rfl, rfl, by decide +kernel, rfl, by decide +kernel, by decide +kernel⟩
def l__law_page_0 : M Fl := (M.set 2 (M.op2 fAdd (M.var 2) (M.call m__law_signs [(M.lst (M.disp [(M.call m__law_span [(M.var 0)])]))])))
def b__law_page : M Fl := (M.seq (M.set 2 (M.lst (M.disp [])))
  (M.seq (M.for_ (M.range1 [(M.call m__law_take [(M.var 0), (M.op2 fAdd (M.var 1) (M.lit (.int 1)))])]) (.one 3) l__law_page_0)
  (M.ret (M.call m__law_page_of [(M.var 2)]))))
def m__law_page : Fn := runFn 4 2 b__law_page
theorem bd__law_page (E : Ms.Env fb fn K mg base) {fa : Addr} {cdv : Value} {A : Around} {outer : List PySem.Env} {s : Shared} {H : Hp} {EE : XK} (hr : Room 3 (XB P w K mg base N__law_page "_law_page" (defScope s__law_page) fa cdv A outer s H EE).A) (tk : L2N.Takes (XB P w K mg base N__law_page "_law_page" (defScope s__law_page) fa cdv A outer s H EE) (WB EE)) : PSs (XB P w K mg base N__law_page "_law_page" (defScope s__law_page) fa cdv A outer s H EE) (defBody s__law_page) (tDS (RC0 K mg) (WB EE) b__law_page) :=
  (ds_cons (ds_set sc__law_page.nd rfl (locOf rfl) (d_fr (df_lst da_nil)))
  (ds_cons (ds_for ownB rfl (di_range1 (by rfl) (fE E (by decide +kernel)) (da_cons (d_call (ok__law_take E) hr (by decide) tk (by rfl) (da_cons (d_var 0 (pv 0)) (da_cons (d_add (d_var 1 (pv 1)) d_int) da_nil))) da_nil)) (tg_one sc__law_page.nd rfl (locOf rfl))
  (ds_one (ds_set sc__law_page.nd rfl (locOf rfl) (d_add (d_var 2 (pv 2)) (d_call (ok__law_signs E) hr (by decide) tk (by rfl) (da_cons (d_fr (df_lst (da_cons (d_call (ok__law_span E) hr (by decide) tk (by rfl) (da_cons (d_var 0 (pv 0)) da_nil)) da_nil))) da_nil))))))
  (ds_one (ds_ret (d_call (ok__law_page_of E) hr (by decide) tk (by rfl) (da_cons (d_var 2 (pv 2)) da_nil))))))
theorem ok__law_page (E : Ms.Env fb fn K mg base) : Def P w K mg base "_law_page" 4 2 m__law_page := by
  obtain ⟨fd, F⟩ := E.c.def_ 48 (d := d__law_page) rfl
  exact ⟨fun ds G h => runFn_len ds G h, He.ga K "_law_page", fd, ["bag", "most"], fnD F sc__law_page (by decide) (fun cdv A outer s H EE hr tk => bd__law_page E hr tk), (gE E (by decide +kernel)), F.kp, FunD.bindsN (ps := ["bag", "most"]) F fun _ _ _ _ _ _ us hl => match us, hl with | [_, _], _ => rfl⟩
/-! ### _law_some_spans -/
def N__law_some_spans : List Str := ["bag", "most", "turn"]
theorem sc__law_some_spans : FnScope N__law_some_spans ["bag", "most"] (defScope s__law_some_spans) := ⟨rfl, rfl, rfl, by decide +kernel, rfl, by decide +kernel, by decide +kernel⟩
def c__law_some_spans_0 : M (List D) := (M.comp [2] (M.range1 [(M.call m__law_take [(M.var 0), (M.op2 fAdd (M.var 1) (M.lit (.int 1)))])]) (.one 2) (pure true) (M.call m__law_span [(M.var 0)]))
def b__law_some_spans : M Fl := (M.ret (M.lst c__law_some_spans_0))
def m__law_some_spans : Fn := runFn 3 2 b__law_some_spans
theorem bd__law_some_spans (E : Ms.Env fb fn K mg base) {fa : Addr} {cdv : Value} {A : Around} {outer : List PySem.Env} {s : Shared} {H : Hp} {EE : XK} (hr : Room 3 (XB P w K mg base N__law_some_spans "_law_some_spans" (defScope s__law_some_spans) fa cdv A outer s H EE).A) (tk : L2N.Takes (XB P w K mg base N__law_some_spans "_law_some_spans" (defScope s__law_some_spans) fa cdv A outer s H EE) (WB EE)) : PSs (XB P w K mg base N__law_some_spans "_law_some_spans" (defScope s__law_some_spans) fa cdv A outer s H EE) (defBody s__law_some_spans) (tDS (RC0 K mg) (WB EE) b__law_some_spans) :=
  (ds_one (ds_ret (d_fr (df_comp (own := [("turn", 2)]) rfl sc__law_some_spans.nd (di_range1 (by rfl) (fE E (by decide +kernel)) (da_cons (d_call (ok__law_take E) hr (by decide) tk (by rfl) (da_cons (d_var 0 (pv 0)) (da_cons (d_add (d_var 1 (pv 1)) d_int) da_nil))) da_nil)) (by show BlkOk N__law_some_spans (defScope s__law_some_spans) _ _; exact ⟨rfl, by decide +kernel, by decide +kernel, by decide +kernel, by decide +kernel⟩) rfl (fun _ _ _ _ _ => (tg_one sc__law_some_spans.nd rfl (locOf rfl))) (fun _ _ _ _ _ => dts_nil) (fun _ _ _ _ _ => (d_call (ok__law_span E) (by exact hr) (by decide) takes0 (by rfl) (da_cons (d_var 0 (pv 0)) da_nil)))))))
theorem ok__law_some_spans (E : Ms.Env fb fn K mg base) : Def P w K mg base "_law_some_spans" 4 2 m__law_some_spans := by
  obtain ⟨fd, F⟩ := E.c.def_ 50 (d := d__law_some_spans) rfl
  exact ⟨fun ds G h => runFn_len ds G h, He.ga K "_law_some_spans", fd, ["bag", "most"], fnD F sc__law_some_spans (by decide) (fun cdv A outer s H EE hr tk => bd__law_some_spans E hr tk), (gE E (by decide +kernel)), F.kp, FunD.bindsN (ps := ["bag", "most"]) F fun _ _ _ _ _ _ us hl => match us, hl with | [_, _], _ => rfl⟩
/-! ### is_version -/
def N_is_version : List Str := ["thing"]
theorem sc_is_version : FnScope N_is_version ["thing"] (defScope s_is_version) := ⟨rfl, rfl, rfl, by decide +kernel, rfl, by decide +kernel, by decide +kernel⟩
def b_is_version : M Fl := (M.seq (M.cond (M.or2 (M.bool (M.op2 fNe (M.op1 fLen (M.var 0)) (M.lit (.int 6)))) (M.or2 (M.not (M.truth (M.call m_is_name [(M.op2 fIx (M.var 0) (M.lit (.int 1)))]))) (M.not (M.truth (M.call m_is_id [(M.slice (M.var 0) (some (M.lit (.int 2))) (some (M.lit (.int 4))))])))))
  (M.ret (M.lit (.bl false)))
  (pure .nx))
  (M.ret (M.andV (M.call m_are_parents [(M.op2 fIx (M.var 0) (M.lit (.int 4)))]) (M.call m_is_page [(M.op2 fIx (M.var 0) (M.lit (.int 5)))]))))
def m_is_version : Fn := runFn 1 1 b_is_version
theorem bd_is_version (E : Ms.Env fb fn K mg base) {fa : Addr} {cdv : Value} {A : Around} {outer : List PySem.Env} {s : Shared} {H : Hp} {EE : XK} (hr : Room 4 (XB P w K mg base N_is_version "is_version" (defScope s_is_version) fa cdv A outer s H EE).A) (tk : L2N.Takes (XB P w K mg base N_is_version "is_version" (defScope s_is_version) fa cdv A outer s H EE) (WB EE)) : PSs (XB P w K mg base N_is_version "is_version" (defScope s_is_version) fa cdv A outer s H EE) (defBody s_is_version) (tDS (RC0 K mg) (WB EE) b_is_version) :=
  (ds_cons (ds_if (PW.pt (dw_or (dt_cmp (cNe (by exact rmOf hr)) (d_blt1 len_ok call_len (by rfl) (fE E (by decide +kernel)) PyProof.Rows.Boot.«len» (d_var 0 (pv 0))) d_int rfl) (dw_or (dt_not (dt_truth (d_call (ok_is_name E) hr (by decide) tk (by rfl) (da_cons (d_ix (by exact rmOf hr) (d_var 0 (pv 0)) d_int (fun _ _ => rfl)) da_nil)))) (dw_or1 (dt_not (dt_truth (d_call (ok_is_id E) hr (by decide) tk (by rfl) (da_cons (d_slice (d_var 0 (pv 0)) (do_some d_int) (do_some d_int)) da_nil))))))))
  (ds_one (ds_ret d_bl))
  ds_nil)
  (ds_one (ds_ret (d_and (d_call (ok_are_parents E) hr (by decide) tk (by rfl) (da_cons (d_ix (by exact rmOf hr) (d_var 0 (pv 0)) d_int (fun _ _ => rfl)) da_nil)) (d_one (d_call (ok_is_page E) hr (by decide) tk (by rfl) (da_cons (d_ix (by exact rmOf hr) (d_var 0 (pv 0)) d_int (fun _ _ => rfl)) da_nil)))))))
theorem ok_is_version (E : Ms.Env fb fn K mg base) : Def P w K mg base "is_version" 5 1 m_is_version := by
  obtain ⟨fd, F⟩ := E.c.def_ 23 (d := d_is_version) rfl
  exact ⟨fun ds G h => runFn_len ds G h, He.ga K "is_version", fd, ["thing"], fnD F sc_is_version (by decide) (fun cdv A outer s H EE hr tk => bd_is_version E hr tk), (gE E (by decide +kernel)), F.kp, FunD.bindsN (ps := ["thing"]) F fun _ _ _ _ _ _ us hl => match us, hl with | [_], _ => rfl⟩
/-! ### is_link -/
def N_is_link : List Str := ["thing", "ends"]
theorem sc_is_link : FnScope N_is_link ["thing"] (defScope s_is_link) := ⟨rfl, rfl, rfl, by decide +kernel, rfl, by decide +kernel, by decide +kernel⟩
def c_is_link_0 : M (List D) := (M.comp [1] (M.items (M.slice (M.var 0) (some (M.lit (.int 4))) none)) (.one 1) (pure true) (M.andV (M.call m_is_ends [(M.var 1)]) (M.op2 fNe (M.var 1) (M.tup []))))
def b_is_link : M Fl := (M.seq (M.cond (M.or2 (M.bool (M.op2 fNe (M.op1 fLen (M.var 0)) (M.lit (.int 6)))) (M.or2 (M.not (M.truth (M.call m_is_id [(M.slice (M.var 0) (some (M.lit (.int 1))) (some (M.lit (.int 3))))]))) (M.not (M.truth (M.call m_is_name [(M.op2 fIx (M.var 0) (M.lit (.int 3)))])))))
  (M.ret (M.lit (.bl false)))
  (pure .nx))
  (M.ret (M.op1 fAll (M.lst c_is_link_0))))
def m_is_link : Fn := runFn 2 1 b_is_link
theorem bd_is_link (E : Ms.Env fb fn K mg base) {fa : Addr} {cdv : Value} {A : Around} {outer : List PySem.Env} {s : Shared} {H : Hp} {EE : XK} (hr : Room 4 (XB P w K mg base N_is_link "is_link" (defScope s_is_link) fa cdv A outer s H EE).A) (tk : L2N.Takes (XB P w K mg base N_is_link "is_link" (defScope s_is_link) fa cdv A outer s H EE) (WB EE)) : PSs (XB P w K mg base N_is_link "is_link" (defScope s_is_link) fa cdv A outer s H EE) (defBody s_is_link) (tDS (RC0 K mg) (WB EE) b_is_link) :=
  (ds_cons (ds_if (PW.pt (dw_or (dt_cmp (cNe (by exact rmOf hr)) (d_blt1 len_ok call_len (by rfl) (fE E (by decide +kernel)) PyProof.Rows.Boot.«len» (d_var 0 (pv 0))) d_int rfl) (dw_or (dt_not (dt_truth (d_call (ok_is_id E) hr (by decide) tk (by rfl) (da_cons (d_slice (d_var 0 (pv 0)) (do_some d_int) (do_some d_int)) da_nil)))) (dw_or1 (dt_not (dt_truth (d_call (ok_is_name E) hr (by decide) tk (by rfl) (da_cons (d_ix (by exact rmOf hr) (d_var 0 (pv 0)) d_int (fun _ _ => rfl)) da_nil))))))))
  (ds_one (ds_ret d_bl))
  ds_nil)
  (ds_one (ds_ret (d_blt1 all_ok (cr_all rfl) (by rfl) (fE E (by decide +kernel)) PyProof.Rows.Boot.«all» (d_fr (df_comp (own := [("ends", 1)]) rfl sc_is_link.nd (di_val (d_slice (d_var 0 (pv 0)) (do_some d_int) do_none)) (by show BlkOk N_is_link (defScope s_is_link) _ _; exact ⟨rfl, by decide +kernel, by decide +kernel, by decide +kernel, by decide +kernel⟩) rfl (fun _ _ _ _ _ => (tg_one sc_is_link.nd rfl (locOf rfl))) (fun _ _ _ _ _ => dts_nil) (fun _ _ _ _ _ => (d_and (d_call (ok_is_ends E) (by exact hr) (by decide) takes0 (by rfl) (da_cons (d_var 1 (pv 1)) da_nil)) (d_one (d_cmp (cNe (by exact rmOf hr)) (d_var 1 (pv 1)) (d_tup da_nil) rfl))))))))))
theorem ok_is_link (E : Ms.Env fb fn K mg base) : Def P w K mg base "is_link" 5 1 m_is_link := by
  obtain ⟨fd, F⟩ := E.c.def_ 24 (d := d_is_link) rfl
  exact ⟨fun ds G h => runFn_len ds G h, He.ga K "is_link", fd, ["thing"], fnD F sc_is_link (by decide) (fun cdv A outer s H EE hr tk => bd_is_link E hr tk), (gE E (by decide +kernel)), F.kp, FunD.bindsN (ps := ["thing"]) F fun _ _ _ _ _ _ us hl => match us, hl with | [_], _ => rfl⟩
/-! ### spans_of -/
def N_spans_of : List Str := ["word", "found", "part"]
theorem sc_spans_of : FnScope N_spans_of ["word"] (defScope s_spans_of) := ⟨rfl, rfl, rfl, by decide +kernel, rfl, by decide +kernel, by decide +kernel⟩
def c_spans_of_0 : M (List D) := (M.comp [2] (M.items (M.split (M.var 0) (M.lit (.str ",")))) (.one 2) (pure true) (M.call m_span_of [(M.var 2)]))
def b_spans_of : M Fl := (M.seq (M.cond (M.bool (M.op2 fEq (M.var 0) (M.lit (.str "-"))))
  (M.ret (M.tup []))
  (pure .nx))
  (M.seq (M.set 1 (M.lst c_spans_of_0))
  (M.ret (M.ite (M.bool (M.op2 (fIn false) (M.lit .non) (M.var 1))) (M.lit .non) (M.op1 fTuple (M.var 1))))))
def m_spans_of : Fn := runFn 3 1 b_spans_of
theorem bd_spans_of (E : Ms.Env fb fn K mg base) {fa : Addr} {cdv : Value} {A : Around} {outer : List PySem.Env} {s : Shared} {H : Hp} {EE : XK} (hr : Room 4 (XB P w K mg base N_spans_of "spans_of" (defScope s_spans_of) fa cdv A outer s H EE).A) (tk : L2N.Takes (XB P w K mg base N_spans_of "spans_of" (defScope s_spans_of) fa cdv A outer s H EE) (WB EE)) : PSs (XB P w K mg base N_spans_of "spans_of" (defScope s_spans_of) fa cdv A outer s H EE) (defBody s_spans_of) (tDS (RC0 K mg) (WB EE) b_spans_of) :=
  (ds_cons (ds_if (dt_cmp (cEq (by exact rmOf hr)) (d_var 0 (pv 0)) (d_gS (by rfl) (gc_NONE E)) rfl)
  (ds_one (ds_ret (d_tup da_nil)))
  ds_nil)
  (ds_cons (ds_setComp (own := [("part", 2)]) rfl sc_spans_of.nd rfl rfl rfl (di_val (d_split (d_var 0 (pv 0)) d_str)) (by show BlkOk N_spans_of (defScope s_spans_of) _ _; exact ⟨rfl, by decide +kernel, by decide +kernel, by decide +kernel, by decide +kernel⟩) rfl (fun _ _ _ _ _ => (tg_one sc_spans_of.nd rfl (locOf rfl))) (fun _ _ _ _ _ => dts_nil) (fun _ _ _ _ _ => (d_call (ok_span_of E) (by exact hr) (by decide) takes0 (by rfl) (da_cons (d_var 2 (pv 2)) da_nil))))
  (ds_one (ds_ret (d_if (dt_cmp (cIn (by exact rmOf hr)) d_non (d_var 1 (pv 1)) rfl) d_non (d_bltT1 tuple_ok call_tuple_of (by rfl) (fE E (by decide +kernel)) PyProof.Rows.Boot.«tuple» (d_var 1 (pv 1))))))))
theorem ok_spans_of (E : Ms.Env fb fn K mg base) : Def P w K mg base "spans_of" 5 1 m_spans_of := by
  obtain ⟨fd, F⟩ := E.c.def_ 32 (d := d_spans_of) rfl
  exact ⟨fun ds G h => runFn_len ds G h, He.ga K "spans_of", fd, ["word"], fnD F sc_spans_of (by decide) (fun cdv A outer s H EE hr tk => bd_spans_of E hr tk), (gE E (by decide +kernel)), F.kp, FunD.bindsN (ps := ["word"]) F fun _ _ _ _ _ _ us hl => match us, hl with | [_], _ => rfl⟩
/-! ### _law_some_ends -/
def N__law_some_ends : List Str := ["bag", "found"]
theorem sc__law_some_ends : FnScope N__law_some_ends ["bag"] (defScope s__law_some_ends) := ⟨rfl, rfl, rfl, by decide +kernel, rfl, by decide +kernel, by decide +kernel⟩
def b__law_some_ends : M Fl := (M.seq (M.set 1 (M.call m__law_ends_of [(M.call m__law_signs [(M.call m__law_some_spans [(M.var 0), (M.lit (.int 3))])])]))
  (M.ret (M.ite (M.bool (M.op2 fNe (M.var 1) (M.tup []))) (M.var 1) (M.tup [(M.tup [(M.lit (.str "ann")), (M.lit (.int 0)), (M.lit (.int 3))])]))))
def m__law_some_ends : Fn := runFn 2 1 b__law_some_ends
theorem bd__law_some_ends (E : Ms.Env fb fn K mg base) {fa : Addr} {cdv : Value} {A : Around} {outer : List PySem.Env} {s : Shared} {H : Hp} {EE : XK} (hr : Room 4 (XB P w K mg base N__law_some_ends "_law_some_ends" (defScope s__law_some_ends) fa cdv A outer s H EE).A) (tk : L2N.Takes (XB P w K mg base N__law_some_ends "_law_some_ends" (defScope s__law_some_ends) fa cdv A outer s H EE) (WB EE)) : PSs (XB P w K mg base N__law_some_ends "_law_some_ends" (defScope s__law_some_ends) fa cdv A outer s H EE) (defBody s__law_some_ends) (tDS (RC0 K mg) (WB EE) b__law_some_ends) :=
  (ds_cons (ds_set sc__law_some_ends.nd rfl (locOf rfl) (d_call (ok__law_ends_of E) hr (by decide) tk (by rfl) (da_cons (d_call (ok__law_signs E) hr (by decide) tk (by rfl) (da_cons (d_call (ok__law_some_spans E) hr (by decide) tk (by rfl) (da_cons (d_var 0 (pv 0)) (da_cons d_int da_nil))) da_nil)) da_nil)))
  (ds_one (ds_ret (d_if (dt_cmp (cNe (by exact rmOf hr)) (d_var 1 (pv 1)) (d_tup da_nil) rfl) (d_var 1 (pv 1)) (d_tup (da_cons (d_tup (da_cons d_str (da_cons d_int (da_cons d_int da_nil)))) da_nil))))))
theorem ok__law_some_ends (E : Ms.Env fb fn K mg base) : Def P w K mg base "_law_some_ends" 5 1 m__law_some_ends := by
  obtain ⟨fd, F⟩ := E.c.def_ 53 (d := d__law_some_ends) rfl
  exact ⟨fun ds G h => runFn_len ds G h, He.ga K "_law_some_ends", fd, ["bag"], fnD F sc__law_some_ends (by decide) (fun cdv A outer s H EE hr tk => bd__law_some_ends E hr tk), (gE E (by decide +kernel)), F.kp, FunD.bindsN (ps := ["bag"]) F fun _ _ _ _ _ _ us hl => match us, hl with | [_], _ => rfl⟩
/-! ### is_record -/
def N_is_record : List Str := ["thing"]
theorem sc_is_record : FnScope N_is_record ["thing"] (defScope s_is_record) := ⟨rfl, rfl, rfl, by decide +kernel, rfl, by decide +kernel, by decide +kernel⟩
def b_is_record : M Fl := (M.seq (M.cond (M.or2 (M.not (M.truth (M.isI kf_tuple (M.var 0)))) (M.or2 (M.bool (M.op2 fEq (M.var 0) (M.tup []))) (M.not (M.truth (M.isI kf_str (M.op2 fIx (M.var 0) (M.lit (.int 0))))))))
  (M.ret (M.lit (.bl false)))
  (pure .nx))
  (M.seq (M.cond (M.bool (M.op2 fEq (M.op2 fIx (M.var 0) (M.lit (.int 0))) (M.lit (.str "pour"))))
  (M.ret (M.call m_is_pour [(M.var 0)]))
  (pure .nx))
  (M.seq (M.cond (M.bool (M.op2 fEq (M.op2 fIx (M.var 0) (M.lit (.int 0))) (M.lit (.str "page"))))
  (M.ret (M.call m_is_version [(M.var 0)]))
  (pure .nx))
  (M.seq (M.cond (M.bool (M.op2 fEq (M.op2 fIx (M.var 0) (M.lit (.int 0))) (M.lit (.str "link"))))
  (M.ret (M.call m_is_link [(M.var 0)]))
  (pure .nx))
  (M.ret (M.andV (M.op2 fEq (M.op2 fIx (M.var 0) (M.lit (.int 0))) (M.lit (.str "off"))) (M.andV (M.op2 fEq (M.op1 fLen (M.var 0)) (M.lit (.int 3))) (M.call m_is_id [(M.slice (M.var 0) (some (M.lit (.int 1))) none)]))))))))
def m_is_record : Fn := runFn 1 1 b_is_record
theorem bd_is_record (E : Ms.Env fb fn K mg base) {fa : Addr} {cdv : Value} {A : Around} {outer : List PySem.Env} {s : Shared} {H : Hp} {EE : XK} (hr : Room 5 (XB P w K mg base N_is_record "is_record" (defScope s_is_record) fa cdv A outer s H EE).A) (tk : L2N.Takes (XB P w K mg base N_is_record "is_record" (defScope s_is_record) fa cdv A outer s H EE) (WB EE)) : PSs (XB P w K mg base N_is_record "is_record" (defScope s_is_record) fa cdv A outer s H EE) (defBody s_is_record) (tDS (RC0 K mg) (WB EE) b_is_record) :=
  (ds_cons (ds_if (PW.pt (dw_or (dt_not (dt_truth (d_isI (by rfl) (fE E (by decide +kernel)) (d_var 0 (pv 0)) (pe_bltn (v := .ty "tuple") (by rfl) (fE E (by decide +kernel)) PyProof.Rows.Boot.«tuple» (by rfl)) (.ty _) (kt_tuple E)))) (dw_or (dt_cmp (cEq (by exact rmOf hr)) (d_var 0 (pv 0)) (d_tup da_nil) rfl) (dw_or1 (dt_not (dt_truth (d_isI (by rfl) (fE E (by decide +kernel)) (d_ix (by exact rmOf hr) (d_var 0 (pv 0)) d_int (fun _ _ => rfl)) (pe_bltn (v := .ty "str") (by rfl) (fE E (by decide +kernel)) PyProof.Rows.Boot.«str» (by rfl)) (.ty _) (kt_str E))))))))
  (ds_one (ds_ret d_bl))
  ds_nil)
  (ds_cons (ds_if (dt_cmp (cEq (by exact rmOf hr)) (d_ix (by exact rmOf hr) (d_var 0 (pv 0)) d_int (fun _ _ => rfl)) d_str rfl)
  (ds_one (ds_ret (d_call (ok_is_pour E) hr (by decide) tk (by rfl) (da_cons (d_var 0 (pv 0)) da_nil))))
  ds_nil)
  (ds_cons (ds_if (dt_cmp (cEq (by exact rmOf hr)) (d_ix (by exact rmOf hr) (d_var 0 (pv 0)) d_int (fun _ _ => rfl)) d_str rfl)
  (ds_one (ds_ret (d_call (ok_is_version E) hr (by decide) tk (by rfl) (da_cons (d_var 0 (pv 0)) da_nil))))
  ds_nil)
  (ds_cons (ds_if (dt_cmp (cEq (by exact rmOf hr)) (d_ix (by exact rmOf hr) (d_var 0 (pv 0)) d_int (fun _ _ => rfl)) d_str rfl)
  (ds_one (ds_ret (d_call (ok_is_link E) hr (by decide) tk (by rfl) (da_cons (d_var 0 (pv 0)) da_nil))))
  ds_nil)
  (ds_one (ds_ret (d_and (d_cmp (cEq (by exact rmOf hr)) (d_ix (by exact rmOf hr) (d_var 0 (pv 0)) d_int (fun _ _ => rfl)) d_str rfl) (d_and (d_cmp (cEq (by exact rmOf hr)) (d_blt1 len_ok call_len (by rfl) (fE E (by decide +kernel)) PyProof.Rows.Boot.«len» (d_var 0 (pv 0))) d_int rfl) (d_one (d_call (ok_is_id E) hr (by decide) tk (by rfl) (da_cons (d_slice (d_var 0 (pv 0)) (do_some d_int) do_none) da_nil)))))))))))
theorem ok_is_record (E : Ms.Env fb fn K mg base) : Def P w K mg base "is_record" 6 1 m_is_record := by
  obtain ⟨fd, F⟩ := E.c.def_ 25 (d := d_is_record) rfl
  exact ⟨fun ds G h => runFn_len ds G h, He.ga K "is_record", fd, ["thing"], fnD F sc_is_record (by decide) (fun cdv A outer s H EE hr tk => bd_is_record E hr tk), (gE E (by decide +kernel)), F.kp, FunD.bindsN (ps := ["thing"]) F fun _ _ _ _ _ _ us hl => match us, hl with | [_], _ => rfl⟩
/-! ### parts_of -/
def N_parts_of : List Str := ["text", "word", "words"]
theorem sc_parts_of : FnScope N_parts_of ["text"] (defScope s_parts_of) := ⟨rfl, rfl, rfl, by decide +kernel, rfl, by decide +kernel, by decide +kernel⟩
def b_parts_of : M Fl := (M.seq (M.setStar 1 2 (M.split (M.var 0) (M.lit (.str " "))))
  (M.seq (M.cond (M.and2 (M.bool (M.op2 fEq (M.var 1) (M.lit (.str "pour")))) (M.bool (M.op2 (fInt gGe) (M.op1 fLen (M.var 2)) (M.lit (.int 3)))))
  (M.ret (M.tup [(M.var 1), (M.op2 fIx (M.var 2) (M.lit (.int 0))), (M.call m_number_of [(M.op2 fIx (M.var 2) (M.lit (.int 1)))]), (M.join (M.lit (.str " ")) (M.slice (M.var 2) (some (M.lit (.int 2))) none))]))
  (pure .nx))
  (M.seq (M.cond (M.and2 (M.bool (M.op2 fEq (M.var 1) (M.lit (.str "page")))) (M.bool (M.op2 fEq (M.op1 fLen (M.var 2)) (M.lit (.int 5)))))
  (M.ret (M.tup [(M.var 1), (M.op2 fIx (M.var 2) (M.lit (.int 0))), (M.op2 fIx (M.var 2) (M.lit (.int 1))), (M.call m_number_of [(M.op2 fIx (M.var 2) (M.lit (.int 2)))]), (M.call m_ids_of [(M.op2 fIx (M.var 2) (M.lit (.int 3)))]), (M.call m_spans_of [(M.op2 fIx (M.var 2) (M.lit (.int 4)))])]))
  (pure .nx))
  (M.seq (M.cond (M.and2 (M.bool (M.op2 fEq (M.var 1) (M.lit (.str "link")))) (M.bool (M.op2 fEq (M.op1 fLen (M.var 2)) (M.lit (.int 5)))))
  (M.ret (M.tup [(M.var 1), (M.op2 fIx (M.var 2) (M.lit (.int 0))), (M.call m_number_of [(M.op2 fIx (M.var 2) (M.lit (.int 1)))]), (M.op2 fIx (M.var 2) (M.lit (.int 2))), (M.call m_spans_of [(M.op2 fIx (M.var 2) (M.lit (.int 3)))]), (M.call m_spans_of [(M.op2 fIx (M.var 2) (M.lit (.int 4)))])]))
  (pure .nx))
  (M.ret (M.ite (M.and2 (M.bool (M.op2 fEq (M.var 1) (M.lit (.str "off")))) (M.bool (M.op2 fEq (M.op1 fLen (M.var 2)) (M.lit (.int 2))))) (M.tup [(M.var 1), (M.op2 fIx (M.var 2) (M.lit (.int 0))), (M.call m_number_of [(M.op2 fIx (M.var 2) (M.lit (.int 1)))])]) (M.lit .non)))))))
def m_parts_of : Fn := runFn 3 1 b_parts_of
theorem bd_parts_of (E : Ms.Env fb fn K mg base) {fa : Addr} {cdv : Value} {A : Around} {outer : List PySem.Env} {s : Shared} {H : Hp} {EE : XK} (hr : Room 5 (XB P w K mg base N_parts_of "parts_of" (defScope s_parts_of) fa cdv A outer s H EE).A) (tk : L2N.Takes (XB P w K mg base N_parts_of "parts_of" (defScope s_parts_of) fa cdv A outer s H EE) (WB EE)) : PSs (XB P w K mg base N_parts_of "parts_of" (defScope s_parts_of) fa cdv A outer s H EE) (defBody s_parts_of) (tDS (RC0 K mg) (WB EE) b_parts_of) :=
  (ds_cons (ds_setStar rfl sc_parts_of.nd rfl rfl (locOf rfl) (locOf rfl) (d_split (d_var 0 (pv 0)) d_str))
  (ds_cons (ds_if (PW.pt (dw_and (dt_cmp (cEq (by exact rmOf hr)) (d_var 1 (pv 1)) d_str rfl) (dw_and1 (dt_cmp cGe (d_blt1 len_ok call_len (by rfl) (fE E (by decide +kernel)) PyProof.Rows.Boot.«len» (d_var 2 (pv 2))) d_int rfl))))
  (ds_one (ds_ret (d_tup (da_cons (d_var 1 (pv 1)) (da_cons (d_ix (by exact rmOf hr) (d_var 2 (pv 2)) d_int (fun _ _ => rfl)) (da_cons (d_call (ok_number_of E) hr (by decide) tk (by rfl) (da_cons (d_ix (by exact rmOf hr) (d_var 2 (pv 2)) d_int (fun _ _ => rfl)) da_nil)) (da_cons (d_join d_str (d_slice (d_var 2 (pv 2)) (do_some d_int) do_none)) da_nil)))))))
  ds_nil)
  (ds_cons (ds_if (PW.pt (dw_and (dt_cmp (cEq (by exact rmOf hr)) (d_var 1 (pv 1)) d_str rfl) (dw_and1 (dt_cmp (cEq (by exact rmOf hr)) (d_blt1 len_ok call_len (by rfl) (fE E (by decide +kernel)) PyProof.Rows.Boot.«len» (d_var 2 (pv 2))) d_int rfl))))
  (ds_one (ds_ret (d_tup (da_cons (d_var 1 (pv 1)) (da_cons (d_ix (by exact rmOf hr) (d_var 2 (pv 2)) d_int (fun _ _ => rfl)) (da_cons (d_ix (by exact rmOf hr) (d_var 2 (pv 2)) d_int (fun _ _ => rfl)) (da_cons (d_call (ok_number_of E) hr (by decide) tk (by rfl) (da_cons (d_ix (by exact rmOf hr) (d_var 2 (pv 2)) d_int (fun _ _ => rfl)) da_nil)) (da_cons (d_call (ok_ids_of E) hr (by decide) tk (by rfl) (da_cons (d_ix (by exact rmOf hr) (d_var 2 (pv 2)) d_int (fun _ _ => rfl)) da_nil)) (da_cons (d_call (ok_spans_of E) hr (by decide) tk (by rfl) (da_cons (d_ix (by exact rmOf hr) (d_var 2 (pv 2)) d_int (fun _ _ => rfl)) da_nil)) da_nil)))))))))
  ds_nil)
  (ds_cons (ds_if (PW.pt (dw_and (dt_cmp (cEq (by exact rmOf hr)) (d_var 1 (pv 1)) d_str rfl) (dw_and1 (dt_cmp (cEq (by exact rmOf hr)) (d_blt1 len_ok call_len (by rfl) (fE E (by decide +kernel)) PyProof.Rows.Boot.«len» (d_var 2 (pv 2))) d_int rfl))))
  (ds_one (ds_ret (d_tup (da_cons (d_var 1 (pv 1)) (da_cons (d_ix (by exact rmOf hr) (d_var 2 (pv 2)) d_int (fun _ _ => rfl)) (da_cons (d_call (ok_number_of E) hr (by decide) tk (by rfl) (da_cons (d_ix (by exact rmOf hr) (d_var 2 (pv 2)) d_int (fun _ _ => rfl)) da_nil)) (da_cons (d_ix (by exact rmOf hr) (d_var 2 (pv 2)) d_int (fun _ _ => rfl)) (da_cons (d_call (ok_spans_of E) hr (by decide) tk (by rfl) (da_cons (d_ix (by exact rmOf hr) (d_var 2 (pv 2)) d_int (fun _ _ => rfl)) da_nil)) (da_cons (d_call (ok_spans_of E) hr (by decide) tk (by rfl) (da_cons (d_ix (by exact rmOf hr) (d_var 2 (pv 2)) d_int (fun _ _ => rfl)) da_nil)) da_nil)))))))))
  ds_nil)
  (ds_one (ds_ret (d_if (PW.pt (dw_and (dt_cmp (cEq (by exact rmOf hr)) (d_var 1 (pv 1)) d_str rfl) (dw_and1 (dt_cmp (cEq (by exact rmOf hr)) (d_blt1 len_ok call_len (by rfl) (fE E (by decide +kernel)) PyProof.Rows.Boot.«len» (d_var 2 (pv 2))) d_int rfl)))) (d_tup (da_cons (d_var 1 (pv 1)) (da_cons (d_ix (by exact rmOf hr) (d_var 2 (pv 2)) d_int (fun _ _ => rfl)) (da_cons (d_call (ok_number_of E) hr (by decide) tk (by rfl) (da_cons (d_ix (by exact rmOf hr) (d_var 2 (pv 2)) d_int (fun _ _ => rfl)) da_nil)) da_nil)))) d_non)))))))
theorem ok_parts_of (E : Ms.Env fb fn K mg base) : Def P w K mg base "parts_of" 6 1 m_parts_of := by
  obtain ⟨fd, F⟩ := E.c.def_ 35 (d := d_parts_of) rfl
  exact ⟨fun ds G h => runFn_len ds G h, He.ga K "parts_of", fd, ["text"], fnD F sc_parts_of (by decide) (fun cdv A outer s H EE hr tk => bd_parts_of E hr tk), (gE E (by decide +kernel)), F.kp, FunD.bindsN (ps := ["text"]) F fun _ _ _ _ _ _ us hl => match us, hl with | [_], _ => rfl⟩
/-! ### read_spans -/
def N_read_spans : List Str := ["text", "found"]
theorem sc_read_spans : FnScope N_read_spans ["text"] (defScope s_read_spans) := ⟨rfl, rfl, rfl, by decide +kernel, rfl, by decide +kernel, by decide +kernel⟩
def b_read_spans : M Fl := (M.seq (M.set 1 (M.ite (M.truth (M.isI kf_str (M.var 0))) (M.call m_spans_of [(M.var 0)]) (M.lit .non)))
  (M.seq (M.cond (M.bool (M.op2 fIs (M.var 1) (M.lit .non)))
  (M.raise (M.mkX "NoText" "line" 0 0 pickN [] []))
  (pure .nx))
  (M.ret (M.var 1))))
def m_read_spans : Fn := runFn 2 1 b_read_spans
theorem bd_read_spans (E : Ms.Env fb fn K mg base) {fa : Addr} {cdv : Value} {A : Around} {outer : List PySem.Env} {s : Shared} {H : Hp} {EE : XK} (hr : Room 5 (XB P w K mg base N_read_spans "read_spans" (defScope s_read_spans) fa cdv A outer s H EE).A) (tk : L2N.Takes (XB P w K mg base N_read_spans "read_spans" (defScope s_read_spans) fa cdv A outer s H EE) (WB EE)) : PSs (XB P w K mg base N_read_spans "read_spans" (defScope s_read_spans) fa cdv A outer s H EE) (defBody s_read_spans) (tDS (RC0 K mg) (WB EE) b_read_spans) :=
  (ds_cons (ds_set sc_read_spans.nd rfl (locOf rfl) (d_if (dt_truth (d_isI (by rfl) (fE E (by decide +kernel)) (d_var 0 (pv 0)) (pe_bltn (v := .ty "str") (by rfl) (fE E (by decide +kernel)) PyProof.Rows.Boot.«str» (by rfl)) (.ty _) (kt_str E))) (d_call (ok_spans_of E) hr (by decide) tk (by rfl) (da_cons (d_var 0 (pv 0)) da_nil)) d_non))
  (ds_cons (ds_if (dt_cmp cIs (d_var 1 (pv 1)) d_non rfl)
  (ds_one (ds_raiseX0 (mx_NoText_d E) hr (by decide) tk (by rfl) rfl dk_nil rfl))
  ds_nil)
  (ds_one (ds_ret (d_var 1 (pv 1))))))
theorem ok_read_spans (E : Ms.Env fb fn K mg base) : Def P w K mg base "read_spans" 6 1 m_read_spans := by
  obtain ⟨fd, F⟩ := E.c.def_ 37 (d := d_read_spans) rfl
  exact ⟨fun ds G h => runFn_len ds G h, He.ga K "read_spans", fd, ["text"], fnD F sc_read_spans (by decide) (fun cdv A outer s H EE hr tk => bd_read_spans E hr tk), (gE E (by decide +kernel)), F.kp, FunD.bindsN (ps := ["text"]) F fun _ _ _ _ _ _ us hl => match us, hl with | [_], _ => rfl⟩
/-! ### _law_record -/
def N__law_record : List Str := ["bag", "way", "which", "first", "parents", "ends", "turn"]
theorem sc__law_record : FnScope N__law_record ["bag"] (defScope s__law_record) := ⟨rfl, rfl, rfl, by decide +kernel, rfl, by decide +kernel, by decide +kernel⟩
def c__law_record_0 : M (List D) := (M.comp [6] (M.range1 [(M.call m__law_take [(M.var 0), (M.lit (.int 3))])]) (.one 6) (pure true) (M.call m__law_id [(M.var 0)]))
def b__law_record : M Fl := (M.seq (M.set 1 (M.call m__law_take [(M.var 0), (M.lit (.int 8))]))
  (M.seq (M.set 2 (M.call m__law_id [(M.var 0)]))
  (M.seq (M.cond (M.bool (M.op2 fLt (M.var 1) (M.lit (.int 3))))
  (M.seq (M.set 3 (M.call m__law_take [(M.var 0), (M.lit (.int 50))]))
  (M.ret (M.tup [(M.lit (.str "pour")), (M.op2 fIx (M.var 2) (M.lit (.int 0))), (M.var 3), (M.slice (M.call m__law_pool [(M.op2 fIx (M.var 2) (M.lit (.int 0)))]) (some (M.var 3)) (some (M.op2 fAdd (M.op2 fAdd (M.var 3) (M.lit (.int 1))) (M.call m__law_take [(M.var 0), (M.lit (.int 20))]))))])))
  (pure .nx))
  (M.seq (M.cond (M.bool (M.op2 fLt (M.var 1) (M.lit (.int 6))))
  (M.seq (M.set 4 (M.sortSet (M.lst c__law_record_0)))
  (M.ret (M.op2 fAdd (M.op2 fAdd (M.tup [(M.lit (.str "page")), (M.call m__law_of [(M.var 0), (M.lst (M.disp [(M.lit (.str "saga")), (M.lit (.str "ode"))]))])]) (M.var 2)) (M.tup [(M.op1 fTuple (M.var 4)), (M.call m__law_page [(M.var 0), (M.lit (.int 3))])]))))
  (pure .nx))
  (M.seq (M.cond (M.bool (M.op2 fEq (M.var 1) (M.lit (.int 6))))
  (M.seq (M.set 5 (M.tup [(M.call m__law_some_ends [(M.var 0)]), (M.call m__law_some_ends [(M.var 0)])]))
  (M.ret (M.op2 fAdd (M.op2 fAdd (M.op2 fAdd (M.tup [(M.lit (.str "link"))]) (M.var 2)) (M.tup [(M.call m__law_of [(M.var 0), (M.lst (M.disp [(M.lit (.str "see")), (M.lit (.str "says"))]))])])) (M.var 5))))
  (pure .nx))
  (M.ret (M.op2 fAdd (M.tup [(M.lit (.str "off"))]) (M.var 2))))))))
def m__law_record : Fn := runFn 7 1 b__law_record
theorem bd__law_record (E : Ms.Env fb fn K mg base) {fa : Addr} {cdv : Value} {A : Around} {outer : List PySem.Env} {s : Shared} {H : Hp} {EE : XK} (hr : Room 5 (XB P w K mg base N__law_record "_law_record" (defScope s__law_record) fa cdv A outer s H EE).A) (tk : L2N.Takes (XB P w K mg base N__law_record "_law_record" (defScope s__law_record) fa cdv A outer s H EE) (WB EE)) : PSs (XB P w K mg base N__law_record "_law_record" (defScope s__law_record) fa cdv A outer s H EE) (defBody s__law_record) (tDS (RC0 K mg) (WB EE) b__law_record) :=
  (ds_cons (ds_set sc__law_record.nd rfl (locOf rfl) (d_call (ok__law_take E) hr (by decide) tk (by rfl) (da_cons (d_var 0 (pv 0)) (da_cons d_int da_nil))))
  (ds_cons (ds_set sc__law_record.nd rfl (locOf rfl) (d_call (ok__law_id E) hr (by decide) tk (by rfl) (da_cons (d_var 0 (pv 0)) da_nil)))
  (ds_cons (ds_if (dt_cmp (cLt (by exact rmOf hr)) (d_var 1 (pv 1)) d_int rfl)
  (ds_cons (ds_set sc__law_record.nd rfl (locOf rfl) (d_call (ok__law_take E) hr (by decide) tk (by rfl) (da_cons (d_var 0 (pv 0)) (da_cons d_int da_nil))))
  (ds_one (ds_ret (d_tup (da_cons d_str (da_cons (d_ix (by exact rmOf hr) (d_var 2 (pv 2)) d_int (fun _ _ => rfl)) (da_cons (d_var 3 (pv 3)) (da_cons (d_slice (d_call (ok__law_pool E) hr (by decide) tk (by rfl) (da_cons (d_ix (by exact rmOf hr) (d_var 2 (pv 2)) d_int (fun _ _ => rfl)) da_nil)) (do_some (d_var 3 (pv 3))) (do_some (d_add (d_add (d_var 3 (pv 3)) d_int) (d_call (ok__law_take E) hr (by decide) tk (by rfl) (da_cons (d_var 0 (pv 0)) (da_cons d_int da_nil)))))) da_nil))))))))
  ds_nil)
  (ds_cons (ds_if (dt_cmp (cLt (by exact rmOf hr)) (d_var 1 (pv 1)) d_int rfl)
  (ds_cons (ds_set sc__law_record.nd rfl (locOf rfl) (d_sortSet rfl (by exact rmOf hr) (by rfl) (fE E (by decide +kernel)) (by rfl) (fE E (by decide +kernel)) (d_fr (df_comp (own := [("turn", 6)]) rfl sc__law_record.nd (di_range1 (by rfl) (fE E (by decide +kernel)) (da_cons (d_call (ok__law_take E) hr (by decide) tk (by rfl) (da_cons (d_var 0 (pv 0)) (da_cons d_int da_nil))) da_nil)) (by show BlkOk N__law_record (defScope s__law_record) _ _; exact ⟨rfl, by decide +kernel, by decide +kernel, by decide +kernel, by decide +kernel⟩) rfl (fun _ _ _ _ _ => (tg_one sc__law_record.nd rfl (locOf rfl))) (fun _ _ _ _ _ => dts_nil) (fun _ _ _ _ _ => (d_call (ok__law_id E) (by exact hr) (by decide) takes0 (by rfl) (da_cons (d_var 0 (pv 0)) da_nil)))))))
  (ds_one (ds_ret (d_add (d_add (d_tup (da_cons d_str (da_cons (d_call (ok__law_of E) hr (by decide) tk (by rfl) (da_cons (d_var 0 (pv 0)) (da_cons (d_fr (df_lst (da_cons d_str (da_cons d_str da_nil)))) da_nil))) da_nil))) (d_var 2 (pv 2))) (d_tup (da_cons (d_bltT1 tuple_ok call_tuple_of (by rfl) (fE E (by decide +kernel)) PyProof.Rows.Boot.«tuple» (d_var 4 (pv 4))) (da_cons (d_call (ok__law_page E) hr (by decide) tk (by rfl) (da_cons (d_var 0 (pv 0)) (da_cons d_int da_nil))) da_nil)))))))
  ds_nil)
  (ds_cons (ds_if (dt_cmp (cEq (by exact rmOf hr)) (d_var 1 (pv 1)) d_int rfl)
  (ds_cons (ds_set sc__law_record.nd rfl (locOf rfl) (d_tup (da_cons (d_call (ok__law_some_ends E) hr (by decide) tk (by rfl) (da_cons (d_var 0 (pv 0)) da_nil)) (da_cons (d_call (ok__law_some_ends E) hr (by decide) tk (by rfl) (da_cons (d_var 0 (pv 0)) da_nil)) da_nil))))
  (ds_one (ds_ret (d_add (d_add (d_add (d_tup (da_cons d_str da_nil)) (d_var 2 (pv 2))) (d_tup (da_cons (d_call (ok__law_of E) hr (by decide) tk (by rfl) (da_cons (d_var 0 (pv 0)) (da_cons (d_fr (df_lst (da_cons d_str (da_cons d_str da_nil)))) da_nil))) da_nil))) (d_var 5 (pv 5))))))
  ds_nil)
  (ds_one (ds_ret (d_add (d_tup (da_cons d_str da_nil)) (d_var 2 (pv 2))))))))))
theorem ok__law_record (E : Ms.Env fb fn K mg base) : Def P w K mg base "_law_record" 6 1 m__law_record := by
  obtain ⟨fd, F⟩ := E.c.def_ 55 (d := d__law_record) rfl
  exact ⟨fun ds G h => runFn_len ds G h, He.ga K "_law_record", fd, ["bag"], fnD F sc__law_record (by decide) (fun cdv A outer s H EE hr tk => bd__law_record E hr tk), (gE E (by decide +kernel)), F.kp, FunD.bindsN (ps := ["bag"]) F fun _ _ _ _ _ _ us hl => match us, hl with | [_], _ => rfl⟩
/-! ### record_of -/
def N_record_of : List Str := ["text", "found"]
theorem sc_record_of : FnScope N_record_of ["text"] (defScope s_record_of) := ⟨rfl, rfl, rfl, by decide +kernel, rfl, by decide +kernel, by decide +kernel⟩
def b_record_of : M Fl := (M.seq (M.set 1 (M.call m_parts_of [(M.var 0)]))
  (M.ret (M.ite (M.truth (M.call m_is_record [(M.var 1)])) (M.var 1) (M.lit .non))))
def m_record_of : Fn := runFn 2 1 b_record_of
theorem bd_record_of (E : Ms.Env fb fn K mg base) {fa : Addr} {cdv : Value} {A : Around} {outer : List PySem.Env} {s : Shared} {H : Hp} {EE : XK} (hr : Room 6 (XB P w K mg base N_record_of "record_of" (defScope s_record_of) fa cdv A outer s H EE).A) (tk : L2N.Takes (XB P w K mg base N_record_of "record_of" (defScope s_record_of) fa cdv A outer s H EE) (WB EE)) : PSs (XB P w K mg base N_record_of "record_of" (defScope s_record_of) fa cdv A outer s H EE) (defBody s_record_of) (tDS (RC0 K mg) (WB EE) b_record_of) :=
  (ds_cons (ds_set sc_record_of.nd rfl (locOf rfl) (d_call (ok_parts_of E) hr (by decide) tk (by rfl) (da_cons (d_var 0 (pv 0)) da_nil)))
  (ds_one (ds_ret (d_if (dt_truth (d_call (ok_is_record E) hr (by decide) tk (by rfl) (da_cons (d_var 1 (pv 1)) da_nil))) (d_var 1 (pv 1)) d_non))))
theorem ok_record_of (E : Ms.Env fb fn K mg base) : Def P w K mg base "record_of" 7 1 m_record_of := by
  obtain ⟨fd, F⟩ := E.c.def_ 36 (d := d_record_of) rfl
  exact ⟨fun ds G h => runFn_len ds G h, He.ga K "record_of", fd, ["text"], fnD F sc_record_of (by decide) (fun cdv A outer s H EE hr tk => bd_record_of E hr tk), (gE E (by decide +kernel)), F.kp, FunD.bindsN (ps := ["text"]) F fun _ _ _ _ _ _ us hl => match us, hl with | [_], _ => rfl⟩
/-! ### read_record -/
def N_read_record : List Str := ["text", "found"]
theorem sc_read_record : FnScope N_read_record ["text"] (defScope s_read_record) := ⟨rfl, rfl, rfl, by decide +kernel, rfl, by decide +kernel, by decide +kernel⟩
def b_read_record : M Fl := (M.seq (M.set 1 (M.ite (M.truth (M.isI kf_str (M.var 0))) (M.call m_record_of [(M.var 0)]) (M.lit .non)))
  (M.seq (M.cond (M.bool (M.op2 fIs (M.var 1) (M.lit .non)))
  (M.raise (M.mkX "NoText" "line" 0 0 pickN [] []))
  (pure .nx))
  (M.ret (M.var 1))))
def m_read_record : Fn := runFn 2 1 b_read_record
theorem bd_read_record (E : Ms.Env fb fn K mg base) {fa : Addr} {cdv : Value} {A : Around} {outer : List PySem.Env} {s : Shared} {H : Hp} {EE : XK} (hr : Room 7 (XB P w K mg base N_read_record "read_record" (defScope s_read_record) fa cdv A outer s H EE).A) (tk : L2N.Takes (XB P w K mg base N_read_record "read_record" (defScope s_read_record) fa cdv A outer s H EE) (WB EE)) : PSs (XB P w K mg base N_read_record "read_record" (defScope s_read_record) fa cdv A outer s H EE) (defBody s_read_record) (tDS (RC0 K mg) (WB EE) b_read_record) :=
  (ds_cons (ds_set sc_read_record.nd rfl (locOf rfl) (d_if (dt_truth (d_isI (by rfl) (fE E (by decide +kernel)) (d_var 0 (pv 0)) (pe_bltn (v := .ty "str") (by rfl) (fE E (by decide +kernel)) PyProof.Rows.Boot.«str» (by rfl)) (.ty _) (kt_str E))) (d_call (ok_record_of E) hr (by decide) tk (by rfl) (da_cons (d_var 0 (pv 0)) da_nil)) d_non))
  (ds_cons (ds_if (dt_cmp cIs (d_var 1 (pv 1)) d_non rfl)
  (ds_one (ds_raiseX0 (mx_NoText_d E) hr (by decide) tk (by rfl) rfl dk_nil rfl))
  ds_nil)
  (ds_one (ds_ret (d_var 1 (pv 1))))))
theorem ok_read_record (E : Ms.Env fb fn K mg base) : Def P w K mg base "read_record" 8 1 m_read_record := by
  obtain ⟨fd, F⟩ := E.c.def_ 38 (d := d_read_record) rfl
  exact ⟨fun ds G h => runFn_len ds G h, He.ga K "read_record", fd, ["text"], fnD F sc_read_record (by decide) (fun cdv A outer s H EE hr tk => bd_read_record E hr tk), (gE E (by decide +kernel)), F.kp, FunD.bindsN (ps := ["text"]) F fun _ _ _ _ _ _ us hl => match us, hl with | [_], _ => rfl⟩
/-! ### read_records -/
def N_read_records : List Str := ["text", "found", "at", "line", "record"]
theorem sc_read_records : FnScope N_read_records ["text"] (defScope s_read_records) := ⟨rfl, rfl, rfl, by decide +kernel, rfl, by decide +kernel, by decide +kernel⟩
def l_read_records_0 : M Fl := (M.cond (M.bool (M.op2 fNe (M.var 3) (M.lit (.str ""))))
  (M.seq (M.set 4 (M.call m_record_of [(M.var 3)]))
  (M.seq (M.cond (M.bool (M.op2 fIs (M.var 4) (M.lit .non)))
  (M.raise (M.mkX "NoText" "line" 0 1 pickK [] [(M.op2 fAdd (M.var 2) (M.lit (.int 1)))]))
  (pure .nx))
  (M.drop (M.append (M.peek 1) (M.var 4)))))
  (pure .nx))
def b_read_records : M Fl := (M.seq (M.cond (M.not (M.truth (M.isI kf_str (M.var 0))))
  (M.raise (M.mkX "NoText" "line" 0 0 pickN [] []))
  (pure .nx))
  (M.seq (M.setOwn 1 (M.disp []))
  (M.seq (M.for_ (M.enum [(M.split (M.var 0) (M.lit (.str "\n")))]) (.many [2, 3]) l_read_records_0)
  (M.ret (M.var 1)))))
def m_read_records : Fn := runFn 5 1 b_read_records
theorem bd_read_records (E : Ms.Env fb fn K mg base) {fa : Addr} {cdv : Value} {A : Around} {outer : List PySem.Env} {s : Shared} {H : Hp} {EE : XK} (hr : Room 7 (XB P w K mg base N_read_records "read_records" (defScope s_read_records) fa cdv A outer s H EE).A) (tk : L2N.Takes (XB P w K mg base N_read_records "read_records" (defScope s_read_records) fa cdv A outer s H EE) (WB EE)) : PSs (XB P w K mg base N_read_records "read_records" (defScope s_read_records) fa cdv A outer s H EE) (defBody s_read_records) (tDS (RC0 K mg) (WB EE) b_read_records) :=
  (ds_cons (ds_if (dt_not (dt_truth (d_isI (by rfl) (fE E (by decide +kernel)) (d_var 0 (pv 0)) (pe_bltn (v := .ty "str") (by rfl) (fE E (by decide +kernel)) PyProof.Rows.Boot.«str» (by rfl)) (.ty _) (kt_str E))))
  (ds_one (ds_raiseX0 (mx_NoText_d E) hr (by decide) tk (by rfl) rfl dk_nil rfl))
  ds_nil)
  (ds_cons (ds_setOwn sc_read_records.nd rfl (locOf rfl) (df_lst da_nil))
  (ds_cons (ds_for ownB rfl (di_enum (by rfl) (fE E (by decide +kernel)) (da_cons (d_split (d_var 0 (pv 0)) d_str) da_nil)) (pg_tup rfl (tgs_cons (tg_one sc_read_records.nd rfl (locOf rfl)) (tgs_cons (tg_one sc_read_records.nd rfl (locOf rfl)) tgs_nil)))
  (ds_one (ds_if (dt_cmp (cNe (by exact rmOf hr)) (d_var 3 (pv 3)) d_str rfl)
  (ds_cons (ds_set sc_read_records.nd rfl (locOf rfl) (d_call (ok_record_of E) hr (by decide) tk (by rfl) (da_cons (d_var 3 (pv 3)) da_nil)))
  (ds_cons (ds_if (dt_cmp cIs (d_var 4 (pv 4)) d_non rfl)
  (ds_one (ds_raiseX0 (mx_NoText_k E) hr (by decide) tk (by rfl) rfl (dk_cons (d_add (d_var 2 (pv 2)) d_int) dk_nil) rfl))
  ds_nil)
  (ds_one (ds_expr (d_append (d_peek 1 (pv 1)) (d_var 4 (pv 4)))))))
  ds_nil)))
  (ds_one (ds_ret (d_var 1 (pv 1)))))))
theorem ok_read_records (E : Ms.Env fb fn K mg base) : Def P w K mg base "read_records" 8 1 m_read_records := by
  obtain ⟨fd, F⟩ := E.c.def_ 39 (d := d_read_records) rfl
  exact ⟨fun ds G h => runFn_len ds G h, He.ga K "read_records", fd, ["text"], fnD F sc_read_records (by decide) (fun cdv A outer s H EE hr tk => bd_read_records E hr tk), (gE E (by decide +kernel)), F.kp, FunD.bindsN (ps := ["text"]) F fun _ _ _ _ _ _ us hl => match us, hl with | [_], _ => rfl⟩
/-! ### _law_no_text -/
def N__law_no_text : List Str := ["way", "text", "found", "kind", "row", "e"]
theorem sc__law_no_text : FnScope N__law_no_text ["way", "text"] (defScope s__law_no_text) := ⟨rfl, rfl, rfl, by decide +kernel, rfl, by decide +kernel, by decide +kernel⟩
def b__law_no_text : M Fl := (M.seq (M.set 2 (M.lit .non))
  (M.seq (M.set 3 (M.lit (.str "")))
  (M.seq (M.set 4 (M.lit (.int 0)))
  (M.seq (M.tryAs ec_NoText 5
  (M.cond (M.bool (M.op2 fEq (M.var 0) (M.lit (.int 0))))
  (M.set 2 (M.call m_read_spans [(M.var 1)]))
  (M.cond (M.bool (M.op2 fEq (M.var 0) (M.lit (.int 1))))
  (M.set 2 (M.call m_read_record [(M.var 1)]))
  (M.set 2 (M.call m_read_records [(M.var 1)]))))
  (M.par 3 4 [(M.call m__law_kinds [(M.var 5)]), (M.xf "line" xs_line (M.var 5))]))
  (M.ret (M.tup [(M.var 2), (M.var 3), (M.var 4)]))))))
def m__law_no_text : Fn := runFn 6 2 b__law_no_text
theorem bd__law_no_text (E : Ms.Env fb fn K mg base) {fa : Addr} {cdv : Value} {A : Around} {outer : List PySem.Env} {s : Shared} {H : Hp} {EE : XK} (hr : Room 8 (XB P w K mg base N__law_no_text "_law_no_text" (defScope s__law_no_text) fa cdv A outer s H EE).A) (tk : L2N.Takes (XB P w K mg base N__law_no_text "_law_no_text" (defScope s__law_no_text) fa cdv A outer s H EE) (WB EE)) : PSs (XB P w K mg base N__law_no_text "_law_no_text" (defScope s__law_no_text) fa cdv A outer s H EE) (defBody s__law_no_text) (tDS (RC0 K mg) (WB EE) b__law_no_text) :=
  (ds_cons (ds_set sc__law_no_text.nd rfl (locOf rfl) d_non)
  (ds_cons (ds_set sc__law_no_text.nd rfl (locOf rfl) d_str)
  (ds_cons (ds_set sc__law_no_text.nd rfl (locOf rfl) d_int)
  (ds_cons (ds_tryAs rfl rfl rfl sc__law_no_text.nd rfl rfl ⟨by rfl, by decide, .inl (gE E (by decide +kernel))⟩ (exm_NoText E) tk (fun W2 pn2 xe2 tkb hpo =>
  (ds_one (ds_if (dt_cmp (cEq (by exact rmOf hr)) (d_var 0 (pv 0)) d_int rfl)
  (ds_one (ds_set sc__law_no_text.nd rfl (locOf rfl) (d_call (ok_read_spans E) (by exact hr) (by decide) tkb (by rfl) (da_cons (d_var 1 (pv 1)) da_nil))))
  (ds_one (ds_if (dt_cmp (cEq (by exact rmOf hr)) (d_var 0 (pv 0)) d_int rfl)
  (ds_one (ds_set sc__law_no_text.nd rfl (locOf rfl) (d_call (ok_read_record E) (by exact hr) (by decide) tkb (by rfl) (da_cons (d_var 1 (pv 1)) da_nil))))
  (ds_one (ds_set sc__law_no_text.nd rfl (locOf rfl) (d_call (ok_read_records E) (by exact hr) (by decide) tkb (by rfl) (da_cons (d_var 1 (pv 1)) da_nil))))))))) (fun ae oe cls2 d2 pn2 hot =>
  (ds_one (ds_parH hot List.mem_cons_self sc__law_no_text.nd rfl rfl (by decide) rfl rfl (da_cons (d_callH hot List.mem_cons_self (okH__law_kinds E) (by exact (roomH_mark hr)) (by decide) takes0 (by rfl) (da_cons (d_var 5 (pv 5)) da_nil)) (da_cons (d_xf (xf_line E) (d_var 5 (pv 5))) da_nil))))))
  (ds_one (ds_ret (d_tup (da_cons (d_var 2 (pv 2)) (da_cons (d_var 3 (pv 3)) (da_cons (d_var 4 (pv 4)) da_nil))))))))))
theorem ok__law_no_text (E : Ms.Env fb fn K mg base) : Def P w K mg base "_law_no_text" 9 2 m__law_no_text := by
  obtain ⟨fd, F⟩ := E.c.def_ 59 (d := d__law_no_text) rfl
  exact ⟨fun ds G h => runFn_len ds G h, He.ga K "_law_no_text", fd, ["way", "text"], fnD F sc__law_no_text (by decide) (fun cdv A outer s H EE hr tk => bd__law_no_text E hr tk), (gE E (by decide +kernel)), F.kp, FunD.bindsN (ps := ["way", "text"]) F fun _ _ _ _ _ _ us hl => match us, hl with | [_, _], _ => rfl⟩
/-! ### law -/
def N_law : List Str := ["script", "k", "bag", "page", "records", "lines", "turn", "record", "line"]
theorem sc_law : FnScope N_law ["script"] (defScope s_law) := ⟨rfl, rfl, rfl, by decide +kernel, rfl, by decide +kernel, by decide +kernel⟩
def t_law_0 : M Fl := (M.cond (M.bool (M.op2 fNe (M.slice (M.call m__law_no_text [(M.lit (.int 2)), (M.join (M.lit (.str "\n")) (M.peek 5))]) (some (M.lit (.int 1))) none) (M.tup [(M.lit (.str "told NoText+")), (M.op2 fAdd (M.index (M.peek 5) (M.lit (.str " "))) (M.lit (.int 1)))])))
  (M.ret (M.lit (.bl false)))
  (pure .nx))
def t_law_1 : M Fl := (M.drop (M.insert (M.peek 5) (M.call m__law_take [(M.var 2), (M.op2 fAdd (M.op1 fLen (M.peek 5)) (M.lit (.int 1)))]) (M.lit (.str " "))))
def t_law_2 : M Fl := (M.cond (M.bool (M.op2 fNe (M.call m_read_records [(M.join (M.lit (.str "\n")) (M.peek 5))]) (M.peek 4)))
  (M.ret (M.lit (.bl false)))
  (pure .nx))
def l_law_0 : M Fl := (M.drop (M.insert (M.peek 5) (M.call m__law_take [(M.var 2), (M.op2 fAdd (M.op1 fLen (M.peek 5)) (M.lit (.int 1)))]) (M.lit (.str ""))))
def t_law_3 : M Fl := (M.for_ (M.range1 [(M.call m__law_take [(M.var 2), (M.lit (.int 5))])]) (.one 6) l_law_0)
def c_law_0 : M (List D) := (M.compOwn 5 [8] (.one 8) (pure true) (M.call m_read_record [(M.var 8)]))
def t_law_4 : M Fl := (M.cond (M.or2 (M.bool (M.op2 fNe (M.lst c_law_0) (M.peek 4))) (M.bool (M.op2 fNe (M.call m_read_records [(M.join (M.lit (.str "\n")) (M.peek 5))]) (M.peek 4))))
  (M.ret (M.lit (.bl false)))
  (pure .nx))
def c_law_1 : M (List D) := (M.comp [7] (M.items (M.var 4)) (.one 7) (pure true) (M.call m_record_text [(M.var 7)]))
def t_law_5 : M Fl := (M.cond (M.or2 (M.bool (M.op2 fNe (M.call m_records_text [(M.var 4)]) (M.join (M.lit (.str "\n")) (M.peek 5)))) (M.bool (M.op2 fNe (M.lst c_law_1) (M.peek 5))))
  (M.ret (M.lit (.bl false)))
  (pure .nx))
def c_law_2 : M (List D) := (M.comp [7] (M.items (M.var 4)) (.one 7) (pure true) (M.call m__law_line [(M.var 7)]))
def t_law_6 : M Fl := (M.setOwn 5 c_law_2)
def t_law_7 : M Fl := (M.drop (M.append (M.peek 4) (M.tup [(M.lit (.str "pour")), (M.lit (.str "zed")), (M.call m__law_take [(M.var 2), (M.op2 (fInt gSub) (M.op2 (fInt gPow) (M.lit (.int 10)) (M.lit (.int 6))) (M.lit (.int 9)))]), (M.call m__law_text [(M.var 2), (M.lit (.int 9))])])))
def c_law_3 : M (List D) := (M.comp [6] (M.range1 [(M.call m__law_take [(M.var 2), (M.lit (.int 12))])]) (.one 6) (pure true) (M.call m__law_record [(M.var 2)]))
def t_law_8 : M Fl := (M.setOwn 4 c_law_3)
def t_law_9 : M Fl := (M.cond (M.or2 (M.bool (M.op2 fNe (M.call m_spans_text [(M.var 3)]) (M.call m__law_spans_line [(M.var 3)]))) (M.bool (M.op2 fNe (M.call m_read_spans [(M.call m_spans_text [(M.var 3)])]) (M.var 3))))
  (M.ret (M.lit (.bl false)))
  (pure .nx))
def t_law_10 : M Fl := (M.set 3 (M.call m__law_page [(M.var 2), (M.lit (.int 8))]))
def t_law_11 : M Fl := (M.set 2 (M.call m__law_bag [(M.var 0), (M.var 1)]))
def l_law_1 : M Fl := (M.seq t_law_11
  (M.seq t_law_10
  (M.seq t_law_9
  (M.seq t_law_8
  (M.seq t_law_7
  (M.seq t_law_6
  (M.seq t_law_5
  (M.seq t_law_4
  (M.seq t_law_3
  (M.seq t_law_2
  (M.seq t_law_1
  t_law_0)))))))))))
def b_law : M Fl := (M.seq (M.cond (M.or2 (M.bool (M.op2 fNe (M.call m_records_text [(M.lst (M.disp []))]) (M.lit (.str "")))) (M.or2 (M.bool (M.op2 fNe (M.call m_read_records [(M.lit (.str ""))]) (M.lst (M.disp [])))) (M.or2 (M.bool (M.op2 fNe (M.call m_spans_text [(M.tup [])]) (M.lit (.str "-")))) (M.bool (M.op2 fNe (M.call m_read_spans [(M.lit (.str "-"))]) (M.tup []))))))
  (M.ret (M.lit (.bl false)))
  (pure .nx))
  (M.seq (M.for_ (M.range1 [(M.op2 fAdd (M.lit (.int 1)) (M.op2 (fInt gMin) (M.op1 fLen (M.var 0)) (M.lit (.int 15))))]) (.one 1) l_law_1)
  (M.ret (M.lit (.bl true)))))
def m_law : Fn := runFn 9 1 b_law
theorem bd_law (E : Ms.Env fb fn K mg base) {fa : Addr} {cdv : Value} {A : Around} {outer : List PySem.Env} {s : Shared} {H : Hp} {EE : XK} (hr : Room 9 (XB P w K mg base N_law "law" (defScope s_law) fa cdv A outer s H EE).A) (tk : L2N.Takes (XB P w K mg base N_law "law" (defScope s_law) fa cdv A outer s H EE) (WB EE)) : PSs (XB P w K mg base N_law "law" (defScope s_law) fa cdv A outer s H EE) (defBody s_law) (tDS (RC0 K mg) (WB EE) b_law) :=
  (ds_cons (ds_if (PW.pt (dw_or (dt_cmp (cNe (by exact rmOf hr)) (d_call (ok_records_text E) hr (by decide) tk (by rfl) (da_cons (d_fr (df_lst da_nil)) da_nil)) d_str rfl) (dw_or (dt_cmp (cNe (by exact rmOf hr)) (d_call (ok_read_records E) hr (by decide) tk (by rfl) (da_cons d_str da_nil)) (d_fr (df_lst da_nil)) rfl) (dw_or (dt_cmp (cNe (by exact rmOf hr)) (d_call (ok_spans_text E) hr (by decide) tk (by rfl) (da_cons (d_tup da_nil) da_nil)) d_str rfl) (dw_or1 (dt_cmp (cNe (by exact rmOf hr)) (d_call (ok_read_spans E) hr (by decide) tk (by rfl) (da_cons d_str da_nil)) (d_tup da_nil) rfl))))))
  (ds_one (ds_ret d_bl))
  ds_nil)
  (ds_cons (ds_for ownB rfl (di_range1 (by rfl) (fE E (by decide +kernel)) (da_cons (d_add d_int (d_blt2 min_ok (call_min2 rfl) (by rfl) (fE E (by decide +kernel)) PyProof.Rows.Boot.«min» (d_blt1 len_ok call_len (by rfl) (fE E (by decide +kernel)) PyProof.Rows.Boot.«len» (d_var 0 (pv 0))) d_int)) da_nil)) (tg_one sc_law.nd rfl (locOf rfl))
  (ds_cons (ds_set sc_law.nd rfl (locOf rfl) (d_call (ok__law_bag E) hr (by decide) tk (by rfl) (da_cons (d_var 0 (pv 0)) (da_cons (d_var 1 (pv 1)) da_nil))))
  (ds_cons (ds_set sc_law.nd rfl (locOf rfl) (d_call (ok__law_page E) hr (by decide) tk (by rfl) (da_cons (d_var 2 (pv 2)) (da_cons d_int da_nil))))
  (ds_cons (ds_if (PW.pt (dw_or (dt_cmp (cNe (by exact rmOf hr)) (d_call (ok_spans_text E) hr (by decide) tk (by rfl) (da_cons (d_var 3 (pv 3)) da_nil)) (d_call (ok__law_spans_line E) hr (by decide) tk (by rfl) (da_cons (d_var 3 (pv 3)) da_nil)) rfl) (dw_or1 (dt_cmp (cNe (by exact rmOf hr)) (d_call (ok_read_spans E) hr (by decide) tk (by rfl) (da_cons (d_call (ok_spans_text E) hr (by decide) tk (by rfl) (da_cons (d_var 3 (pv 3)) da_nil)) da_nil)) (d_var 3 (pv 3)) rfl))))
  (ds_one (ds_ret d_bl))
  ds_nil)
  (ds_cons (ds_setOwnComp (own := [("turn", 6)]) rfl sc_law.nd rfl rfl rfl (di_range1 (by rfl) (fE E (by decide +kernel)) (da_cons (d_call (ok__law_take E) hr (by decide) tk (by rfl) (da_cons (d_var 2 (pv 2)) (da_cons d_int da_nil))) da_nil)) (by show BlkOk N_law (defScope s_law) _ _; exact ⟨rfl, by decide +kernel, by decide +kernel, by decide +kernel, by decide +kernel⟩) rfl (fun _ _ _ _ _ => (tg_one sc_law.nd rfl (locOf rfl))) (fun _ _ _ _ _ => dts_nil) (fun _ _ _ _ _ => (d_call (ok__law_record E) (by exact hr) (by decide) takes0 (by rfl) (da_cons (d_var 2 (pv 2)) da_nil))))
  (ds_cons (ds_expr (d_append (d_peek 4 (pv 4)) (d_tup (da_cons d_str (da_cons d_str (da_cons (d_call (ok__law_take E) hr (by decide) tk (by rfl) (da_cons (d_var 2 (pv 2)) (da_cons (d_sub (d_pow d_int d_int) d_int) da_nil))) (da_cons (d_call (ok__law_text E) hr (by decide) tk (by rfl) (da_cons (d_var 2 (pv 2)) (da_cons d_int da_nil))) da_nil)))))))
  (ds_cons (ds_setOwnComp (own := [("record", 7)]) rfl sc_law.nd rfl rfl rfl (di_val (d_var 4 (pv 4))) (by show BlkOk N_law (defScope s_law) _ _; exact ⟨rfl, by decide +kernel, by decide +kernel, by decide +kernel, by decide +kernel⟩) rfl (fun _ _ _ _ _ => (tg_one sc_law.nd rfl (locOf rfl))) (fun _ _ _ _ _ => dts_nil) (fun _ _ _ _ _ => (d_call (ok__law_line E) (by exact hr) (by decide) takes0 (by rfl) (da_cons (d_var 7 (pv 7)) da_nil))))
  (ds_cons (ds_if (PW.pt (dw_or (dt_cmp (cNe (by exact rmOf hr)) (d_call (ok_records_text E) hr (by decide) tk (by rfl) (da_cons (d_var 4 (pv 4)) da_nil)) (d_join d_str (d_peek 5 (pv 5))) rfl) (dw_or1 (dt_cmp (cNe (by exact rmOf hr)) (d_fr (df_comp (own := [("record", 7)]) rfl sc_law.nd (di_val (d_var 4 (pv 4))) (by show BlkOk N_law (defScope s_law) _ _; exact ⟨rfl, by decide +kernel, by decide +kernel, by decide +kernel, by decide +kernel⟩) rfl (fun _ _ _ _ _ => (tg_one sc_law.nd rfl (locOf rfl))) (fun _ _ _ _ _ => dts_nil) (fun _ _ _ _ _ => (d_call (ok_record_text E) (by exact hr) (by decide) takes0 (by rfl) (da_cons (d_var 7 (pv 7)) da_nil))))) (d_peek 5 (pv 5)) rfl))))
  (ds_one (ds_ret d_bl))
  ds_nil)
  (ds_cons (ds_if (PW.pt (dw_or (dt_cmp (cNe (by exact rmOf hr)) (d_fr (df_compOwn (own := [("line", 8)]) rfl sc_law.nd (pv 5) (by show BlkOk N_law (defScope s_law) _ _; exact ⟨rfl, by decide +kernel, by decide +kernel, by decide +kernel, by decide +kernel⟩) rfl (fun _ _ _ _ _ => (tg_one sc_law.nd rfl (locOf rfl))) (fun _ _ _ _ _ => dts_nil) (fun _ _ _ _ _ => (d_call (ok_read_record E) (by exact hr) (by decide) takes0 (by rfl) (da_cons (d_var 8 (pv 8)) da_nil))))) (d_peek 4 (pv 4)) rfl) (dw_or1 (dt_cmp (cNe (by exact rmOf hr)) (d_call (ok_read_records E) hr (by decide) tk (by rfl) (da_cons (d_join d_str (d_peek 5 (pv 5))) da_nil)) (d_peek 4 (pv 4)) rfl))))
  (ds_one (ds_ret d_bl))
  ds_nil)
  (ds_cons (ds_for ownB rfl (di_range1 (by rfl) (fE E (by decide +kernel)) (da_cons (d_call (ok__law_take E) hr (by decide) tk (by rfl) (da_cons (d_var 2 (pv 2)) (da_cons d_int da_nil))) da_nil)) (tg_one sc_law.nd rfl (locOf rfl))
  (ds_one (ds_expr (d_insert (d_peek 5 (pv 5)) (d_call (ok__law_take E) hr (by decide) tk (by rfl) (da_cons (d_var 2 (pv 2)) (da_cons (d_add (d_blt1 len_ok call_len (by rfl) (fE E (by decide +kernel)) PyProof.Rows.Boot.«len» (d_peek 5 (pv 5))) d_int) da_nil))) d_str))))
  (ds_cons (ds_if (dt_cmp (cNe (by exact rmOf hr)) (d_call (ok_read_records E) hr (by decide) tk (by rfl) (da_cons (d_join d_str (d_peek 5 (pv 5))) da_nil)) (d_peek 4 (pv 4)) rfl)
  (ds_one (ds_ret d_bl))
  ds_nil)
  (ds_cons (ds_expr (d_insert (d_peek 5 (pv 5)) (d_call (ok__law_take E) hr (by decide) tk (by rfl) (da_cons (d_var 2 (pv 2)) (da_cons (d_add (d_blt1 len_ok call_len (by rfl) (fE E (by decide +kernel)) PyProof.Rows.Boot.«len» (d_peek 5 (pv 5))) d_int) da_nil))) d_str))
  (ds_one (ds_if (dt_cmp (cNe (by exact rmOf hr)) (d_slice (d_call (ok__law_no_text E) hr (by decide) tk (by rfl) (da_cons d_int (da_cons (d_join d_str (d_peek 5 (pv 5))) da_nil))) (do_some d_int) do_none) (d_tup (da_cons d_str (da_cons (d_add (d_index (by exact rmOf hr) (d_peek 5 (pv 5)) d_str) d_int) da_nil))) rfl)
  (ds_one (ds_ret d_bl))
  ds_nil))))))))))))))
  (ds_one (ds_ret d_bl))))
theorem ok_law (E : Ms.Env fb fn K mg base) : Def P w K mg base "law" 10 1 m_law := by
  obtain ⟨fd, F⟩ := E.c.def_ 60 (d := d_law) rfl
  exact ⟨fun ds G h => runFn_len ds G h, He.ga K "law", fd, ["script"], fnD F sc_law (by decide) (fun cdv A outer s H EE hr tk => bd_law E hr tk), (gE E (by decide +kernel)), F.kp, FunD.bindsN (ps := ["script"]) F fun _ _ _ _ _ _ us hl => match us, hl with | [_], _ => rfl⟩
end
end Pw
/-! Pl: computations evaluated by simp. -/
namespace Ms
open PySem PySem.Spec PyProof.Rows L2 MsT
/-- what comes behind -/
abbrev Tag {γ : Type} (_ : γ) : Type := Unit
def Out.andThen {α β : Type} (o : Out α) (k : α → Sta → Out β) (_ : Tag k := ()) : Out β := match o with
  | .ok a s => k a s
  | .exc e s => .exc e s
  | .stuck => .stuck
def FOut.andThen {β : Type} (o : FOut) (s : Sta) (k : D → Sta → Out β) (_ : Tag k := ()) : Out β := match o with
  | .ok d G => k d { s with G := G }
  | .exc e G => .exc e { s with G := G }
  | .stuck => .stuck
def oOut {α : Type} (o : Option α) (s : Sta) : Out α := match o with
  | some a => .ok a s
  | none => .stuck
def seqK (b : M Fl) (f : Fl) (s : Sta) : Out Fl := match f with
  | .nx => b s
  | f => .ok f s
def blK (d : D) (s : Sta) : Out Bool := match d with
  | .bl b => .ok b s
  | _ => .stuck
def strK {β : Type} (k : Str → Sta → Out β) (d : D) (s : Sta) : Out β := match d with
  | .str b => k b s
  | _ => .stuck
def intK (d : D) (s : Sta) : Out (Option Int) := match d with
  | .int b => .ok (some b) s
  | _ => .stuck
def outK {β : Type} (k : D → Sta → Out β) (d : D) (s : Sta) : Out β := if d.isOwn = true then .stuck else k d s
def slotV (i : Nat) (sl : Option Slot) (s : Sta) : Out D := match sl with
  | some (.val d) => .ok d s
  | some (.own (.lst l)) => .ok (.lst l) { s with ρ := s.ρ.set i (.val (.lst l)) }
  | some (.own (.dct t ks vs)) => .ok (.dct t ks vs) { s with ρ := s.ρ.set i (.val (.dct t ks vs)) }
  | _ => .stuck
def slotP (i : Nat) (sl : Option Slot) (s : Sta) : Out D := match sl with
  | some (.val d) => .ok d s
  | some (.own _) => .ok (.own i) s
  | _ => .stuck
section
variable {α β : Type} {s : Sta}
theorem andThen_congr {o o' : Out α} {k : α → Sta → Out β} (h : o = o') : o.andThen k = o'.andThen k := by rw [h]
theorem aext {o : Out α} {k k' : α → Sta → Out β} (h : ∀ a s, k a s = k' a s) : o.andThen k = o.andThen k' := by
  have e : k = k' := by funext a s; exact h a s
  rw [e]
theorem aext1 {o : Out α} {k k' : α → Sta → Out β} (h : ∀ a, k a = k' a) : o.andThen k = o.andThen k' := aext fun a s => by rw [h]
@[simp] theorem andThen_ok (a : α) (s : Sta) (k : α → Sta → Out β) : (Out.ok a s).andThen k = k a s := rfl
@[simp] theorem andThen_exc (e : D) (s : Sta) (k : α → Sta → Out β) : (Out.exc e s : Out α).andThen k = .exc e s := rfl
@[simp] theorem andThen_stuck (k : α → Sta → Out β) : (Out.stuck : Out α).andThen k = .stuck := rfl
theorem fandThen_congr {o o' : FOut} {s : Sta} {k : D → Sta → Out β} (h : o = o') : o.andThen s k = o'.andThen s k := by rw [h]
@[simp] theorem fandThen_ok (d : D) (G : List MO) (s : Sta) (k : D → Sta → Out β) : (FOut.ok d G).andThen s k = k d { s with G := G } := rfl
@[simp] theorem fandThen_exc (e : D) (G : List MO) (s : Sta) (k : D → Sta → Out β) : (FOut.exc e G).andThen s k = .exc e { s with G := G } := rfl
@[simp] theorem oOut_some (a : α) (s : Sta) : oOut (some a) s = .ok a s := rfl
@[simp] theorem oOut_none (s : Sta) : oOut (none : Option α) s = .stuck := rfl
@[simp] theorem seqK_nx (b : M Fl) (s : Sta) : seqK b .nx s = b s := rfl
@[simp] theorem seqK_rt (b : M Fl) (d : D) (s : Sta) : seqK b (.rt d) s = .ok (.rt d) s := rfl
@[simp] theorem seqK_bk (b : M Fl) (s : Sta) : seqK b .bk s = .ok .bk s := rfl
@[simp] theorem seqK_ct (b : M Fl) (s : Sta) : seqK b .ct s = .ok .ct s := rfl
@[simp] theorem blK_bl (b : Bool) (s : Sta) : blK (.bl b) s = .ok b s := rfl
@[simp] theorem strK_str (k : Str → Sta → Out β) (b : Str) (s : Sta) : strK k (.str b) s = k b s := rfl
@[simp] theorem intK_int (b : Int) (s : Sta) : intK (.int b) s = .ok (some b) s := rfl
theorem outK_no {k : D → Sta → Out β} {d : D} (h : d.isOwn = false) : outK k d s = k d s := by unfold outK; rw [h]; rfl
@[simp] theorem outK_int (k : D → Sta → Out β) (i : Int) (s : Sta) : outK k (.int i) s = k (.int i) s := rfl
@[simp] theorem outK_str (k : D → Sta → Out β) (i : Str) (s : Sta) : outK k (.str i) s = k (.str i) s := rfl
@[simp] theorem outK_bl (k : D → Sta → Out β) (i : Bool) (s : Sta) : outK k (.bl i) s = k (.bl i) s := rfl
@[simp] theorem outK_non (k : D → Sta → Out β) (s : Sta) : outK k .non s = k .non s := rfl
@[simp] theorem outK_tup (k : D → Sta → Out β) (l : List D) (s : Sta) : outK k (.tup l) s = k (.tup l) s := rfl
@[simp] theorem outK_lst (k : D → Sta → Out β) (l : List D) (s : Sta) : outK k (.lst l) s = k (.lst l) s := rfl
@[simp] theorem outK_ref (k : D → Sta → Out β) (g : Nat) (s : Sta) : outK k (.ref g) s = k (.ref g) s := rfl
@[simp] theorem outK_scr (k : D → Sta → Out β) (g : List Int) (s : Sta) : outK k (.scr g) s = k (.scr g) s := rfl
@[simp] theorem outK_exc (k : D → Sta → Out β) (c n : Str) (d : D) (s : Sta) : outK k (.exc c n d) s = k (.exc c n d) s := rfl
@[simp] theorem outK_dct (k : D → Sta → Out β) (t : Nat) (c n : List D) (s : Sta) : outK k (.dct t c n) s = k (.dct t c n) s := rfl
@[simp] theorem slotV_val (i : Nat) (d : D) (s : Sta) : slotV i (some (.val d)) s = .ok d s := rfl
@[simp] theorem slotV_own (i : Nat) (l : List D) (s : Sta) : slotV i (some (.own (.lst l))) s = .ok (.lst l) { s with ρ := s.ρ.set i (.val (.lst l)) } := rfl
@[simp] theorem slotP_val (i : Nat) (d : D) (s : Sta) : slotP i (some (.val d)) s = .ok d s := rfl
@[simp] theorem slotP_own (i : Nat) (o : MO) (s : Sta) : slotP i (some (.own o)) s = .ok (.own i) s := rfl
@[simp] theorem e_bind (m : M α) (k : α → M β) (s : Sta) : (m >>= k) s = (m s).andThen k := rfl
@[simp] theorem e_pure (a : α) (s : Sta) : (pure a : M α) s = .ok a s := rfl
@[simp] theorem e_mpure (a : α) (s : Sta) : (M.pure a : M α) s = .ok a s := rfl
@[simp] theorem e_stuck (s : Sta) : (M.stuck : M α) s = .stuck := rfl
@[simp] theorem e_lit (d : D) (s : Sta) : M.lit d s = .ok d s := rfl
@[simp] theorem e_ite (c : Prop) [Decidable c] (a b : M α) (s : Sta) : (if c then a else b) s = if c then a s else b s := by split <;> rfl
@[simp] theorem e_look (f : Sta → Option D) (s : Sta) : M.look f s = oOut (f s) s := by
  unfold M.look oOut
  cases f s <;> rfl
@[simp] theorem e_out (d : D) (s : Sta) : M.out d s = outK .ok d s := by
  unfold M.out outK
  split <;> rfl
@[simp] theorem e_var (i : Nat) (s : Sta) : M.var i s = slotV i s.ρ[i]? s := rfl
@[simp] theorem e_peek (i : Nat) (s : Sta) : M.peek i s = slotP i s.ρ[i]? s := rfl
@[simp] theorem e_op2 (f : D → D → M D) (a b : M D) (s : Sta) : M.op2 f a b s = (a s).andThen fun x s => (b s).andThen fun y s => f x y s := rfl
@[simp] theorem e_op1 (f : D → M D) (a : M D) (s : Sta) : M.op1 f a s = (a s).andThen fun x s => f x s := rfl
@[simp] theorem e_args0 (s : Sta) : M.args [] s = .ok [] s := rfl
theorem bind_out {k : D → M β} (d : D) (s : Sta) : (M.out d >>= k) s = outK k d s := by
  rw [e_bind, e_out]
  unfold outK
  split <;> rfl
@[simp] theorem e_args (m : M D) (ms : List (M D)) (s : Sta) : M.args (m :: ms) s = (m s).andThen (outK fun d s => (M.args ms s).andThen fun ds s => .ok (d :: ds) s) := by
  show (m >>= _) s = _
  rw [e_bind]
  first
    | (refine aext ?_; intro d s)
    | (congr 1; funext d s)
  exact bind_out d s
@[simp] theorem e_bool (m : M D) (s : Sta) : M.bool m s = (m s).andThen blK := by
  unfold M.bool
  rw [e_bind]
  first
    | (refine aext ?_; intro d s)
    | (congr 1; funext d s)
  cases d <;> rfl
@[simp] theorem e_tru (d : D) (s : Sta) : M.tru d s = oOut (truD s d) s := by
  unfold M.tru oOut
  cases truD s d <;> rfl
@[simp] theorem e_truth (m : M D) (s : Sta) : M.truth m s = (m s).andThen fun d s => oOut (truD s d) s := by
  unfold M.truth
  rw [e_bind]
  first
    | (refine aext ?_; intro d s)
    | (congr 1; funext d s)
  exact e_tru d s
@[simp] theorem e_not (m : M Bool) (s : Sta) : M.not m s = (m s).andThen fun b s => .ok (!b) s := rfl
@[simp] theorem e_and2 (a b : M Bool) (s : Sta) : M.and2 a b s = (a s).andThen fun k s => if k = true then b s else .ok false s := by
  unfold M.and2
  rw [e_bind]
  first
    | (refine aext ?_; intro k s)
    | (congr 1; funext k s)
  cases k <;> rfl
@[simp] theorem e_or2 (a b : M Bool) (s : Sta) : M.or2 a b s = (a s).andThen fun k s => if k = true then .ok true s else b s := by
  unfold M.or2
  rw [e_bind]
  first
    | (refine aext ?_; intro k s)
    | (congr 1; funext k s)
  cases k <;> rfl
@[simp] theorem e_andV (a b : M D) (s : Sta) : M.andV a b s = (a s).andThen fun x s => (oOut (truD s x) s).andThen fun k s => if k = true then b s else .ok x s := by
  unfold M.andV
  rw [e_bind]
  first
    | (refine aext ?_; intro x s)
    | (congr 1; funext x s)
  rw [e_bind, e_tru]
  first
    | (refine aext ?_; intro k s)
    | (congr 1; funext k s)
  cases k <;> rfl
@[simp] theorem e_orV (a b : M D) (s : Sta) : M.orV a b s = (a s).andThen fun x s => (oOut (truD s x) s).andThen fun k s => if k = true then .ok x s else b s := by
  unfold M.orV
  rw [e_bind]
  first
    | (refine aext ?_; intro x s)
    | (congr 1; funext x s)
  rw [e_bind, e_tru]
  first
    | (refine aext ?_; intro k s)
    | (congr 1; funext k s)
  cases k <;> rfl
@[simp] theorem e_notV (a : M D) (s : Sta) : M.notV a s = (M.truth a s).andThen fun b s => .ok (.bl (!b)) s := rfl
@[simp] theorem e_mite (t : M Bool) (a b : M D) (s : Sta) : M.ite t a b s = (t s).andThen fun k s => if k = true then a s else b s := by
  unfold M.ite
  rw [e_bind]
  first
    | (refine aext ?_; intro k s)
    | (congr 1; funext k s)
  cases k <;> rfl
@[simp] theorem e_chain (f g : D → D → M D) (a b c : M D) (s : Sta) : M.chain f g a b c s = (a s).andThen fun x s => (b s).andThen fun y s => (M.bool (f x y) s).andThen fun k s => if k = true then (c s).andThen fun z s => g y z s else .ok (.bl false) s := by
  unfold M.chain
  rw [e_bind]
  first
    | (refine aext ?_; intro x s)
    | (congr 1; funext x s)
  rw [e_bind]
  first
    | (refine aext ?_; intro y s)
    | (congr 1; funext y s)
  rw [e_bind]
  first
    | (refine aext ?_; intro k s)
    | (congr 1; funext k s)
  cases k <;> rfl
@[simp] theorem e_isI (kt : Ty → Option Bool) (m : M D) (s : Sta) : M.isI kt m s = (m s).andThen fun d s => oOut (((d.tyS s).bind kt).map D.bl) s := by
  unfold M.isI
  rw [e_bind]
  first
    | (refine aext ?_; intro d s)
    | (congr 1; funext d s)
  exact e_look _ s
@[simp] theorem e_seq (a b : M Fl) (s : Sta) : M.seq a b s = (a s).andThen (seqK b) := by
  unfold M.seq
  rw [e_bind]
  first
    | (refine aext ?_; intro f s)
    | (congr 1; funext f s)
  cases f <;> rfl
@[simp] theorem e_ret (m : M D) (s : Sta) : M.ret m s = (m s).andThen (outK fun d s => .ok (.rt d) s) := by
  unfold M.ret
  rw [e_bind]
  first
    | (refine aext ?_; intro d s)
    | (congr 1; funext d s)
  exact bind_out d s
@[simp] theorem e_retN (s : Sta) : M.retN s = .ok (.rt .non) s := rfl
@[simp] theorem e_drop (m : M D) (s : Sta) : M.drop m s = (m s).andThen fun _ s => .ok .nx s := rfl
@[simp] theorem e_cond (t : M Bool) (a b : M Fl) (s : Sta) : M.cond t a b s = (t s).andThen fun k s => if k = true then a s else b s := by
  unfold M.cond
  rw [e_bind]
  first
    | (refine aext ?_; intro k s)
    | (congr 1; funext k s)
  cases k <;> rfl
@[simp] theorem e_put (i : Nat) (sl : Slot) (s : Sta) : M.put i sl s = if i < s.ρ.length then .ok .nx { s with ρ := s.ρ.set i sl } else .stuck := rfl
@[simp] theorem e_set (i : Nat) (m : M D) (s : Sta) : M.set i m s = (m s).andThen (outK fun d s => M.put i (.val d) s) := by
  unfold M.set
  rw [e_bind]
  first
    | (refine aext ?_; intro d s)
    | (congr 1; funext d s)
  exact bind_out d s
@[simp] theorem e_setOwn (i : Nat) (m : M (List D)) (s : Sta) : M.setOwn i m s = (m s).andThen fun d s => M.put i (.own (.lst d)) s := rfl
@[simp] theorem e_tup (ms : List (M D)) (s : Sta) : M.tup ms s = (M.args ms s).andThen fun ds s => if lenOk ds.length then .ok (.tup ds) s else .stuck := by
  unfold M.tup
  rw [e_bind]
  first
    | (refine aext ?_; intro ds s)
    | (congr 1; funext ds s)
  exact e_ite _ _ _ _
@[simp] theorem e_disp (ms : List (M D)) (s : Sta) : M.disp ms s = (M.args ms s).andThen fun ds s => if lenOk ds.length then .ok ds s else .stuck := by
  unfold M.disp
  rw [e_bind]
  first
    | (refine aext ?_; intro ds s)
    | (congr 1; funext ds s)
  exact e_ite _ _ _ _
@[simp] theorem e_lst (m : M (List D)) (s : Sta) : M.lst m s = (m s).andThen fun d s => .ok (.lst d) s := rfl
@[simp] theorem e_fn (f : Fn) (ds : List D) (s : Sta) : M.fn f ds s = (f ds s.G).andThen s .ok := by
  unfold M.fn FOut.andThen
  cases f ds s.G <;> rfl
@[simp] theorem e_call (f : Fn) (ms : List (M D)) (s : Sta) : M.call f ms s = (M.args ms s).andThen fun ds s => (f ds s.G).andThen s .ok := by
  unfold M.call
  rw [e_bind]
  refine aext ?_
  intro ds s
  exact e_fn f ds s
@[simp] theorem e_part0 (s : Sta) : M.part none s = .ok none s := rfl
@[simp] theorem e_part (m : M D) (s : Sta) : M.part (some m) s = (m s).andThen intK := by
  show (m >>= _) s = _
  rw [e_bind]
  first
    | (refine aext ?_; intro d s)
    | (congr 1; funext d s)
  cases d <;> rfl
@[simp] theorem e_slice (a : M D) (lo hi : Option (M D)) (s : Sta) : M.slice a lo hi s = (a s).andThen fun x s => (M.part lo s).andThen fun l s => (M.part hi s).andThen fun u s => oOut (slD s x l u) s := by
  unfold M.slice
  rw [e_bind]
  first
    | (refine aext ?_; intro x s)
    | (congr 1; funext x s)
  rw [e_bind]
  first
    | (refine aext ?_; intro l s)
    | (congr 1; funext l s)
  rw [e_bind]
  first
    | (refine aext ?_; intro u s)
    | (congr 1; funext u s)
  exact e_look _ s
@[simp] theorem e_isS (d : D) (s : Sta) : M.isS d s = strK (fun z s => .ok (.str z) s) d s := by
  unfold M.isS M.look
  cases d <;> rfl
theorem bind_isS {k : D → M β} (d : D) (s : Sta) : (M.isS d >>= k) s = strK (fun z s => k (.str z) s) d s := by
  rw [e_bind, e_isS]
  cases d <;> rfl
@[simp] theorem e_join (mo m : M D) (s : Sta) : M.join mo m s = (mo s).andThen (strK fun z s => (m s).andThen fun l s => oOut (joinD s (.str z) l) s) := by
  unfold M.join
  rw [e_bind]
  first
    | (refine aext ?_; intro o s)
    | (congr 1; funext o s)
  rw [bind_isS]
  first
    | (refine aext ?_; intro z s)
    | (congr 1; funext z s)
  rw [e_bind]
  first
    | (refine aext ?_; intro l s)
    | (congr 1; funext l s)
  exact e_look _ s
@[simp] theorem e_js0 (acc : Str) (s : Sta) : M.js [] acc s = .ok (.str acc) s := rfl
@[simp] theorem e_js (m : M D) (ms : List (M D)) (acc : Str) (s : Sta) : M.js (m :: ms) acc s = (m s).andThen (strK fun y s => if lenOk (acc ++ y).length then M.js ms (acc ++ y) s else .stuck) := by
  show (m >>= _) s = _
  rw [e_bind]
  first
    | (refine aext ?_; intro d s)
    | (congr 1; funext d s)
  cases d with
  | str y => exact e_ite _ _ _ _
  | _ => rfl
@[simp] theorem e_opt (o : Option D) (s : Sta) : M.opt o s = oOut o s := by
  cases o <;> rfl
@[simp] theorem e_opL (o : Option (List D)) (s : Sta) : M.opL o s = oOut o s := by
  cases o <;> rfl
@[simp] theorem e_split (mo m : M D) (s : Sta) : M.split mo m s = (mo s).andThen (strK fun z s => (m s).andThen fun l s => oOut (splitD (.str z) l) s) := by
  unfold M.split
  rw [e_bind]
  first
    | (refine aext ?_; intro o s)
    | (congr 1; funext o s)
  rw [bind_isS]
  first
    | (refine aext ?_; intro z s)
    | (congr 1; funext z s)
  rw [e_bind]
  first
    | (refine aext ?_; intro l s)
    | (congr 1; funext l s)
  exact e_opt _ s
@[simp] theorem e_items (m : M D) (s : Sta) : M.items m s = (m s).andThen fun d s => oOut d.items s := by
  unfold M.items
  rw [e_bind]
  first
    | (refine aext ?_; intro d s)
    | (congr 1; funext d s)
  exact e_opL _ s
@[simp] theorem e_setMany (is : List Nat) (m : M D) (s : Sta) : M.setMany is m s = (m s).andThen (outK fun d s => M.bindTo (.many is) d s) := by
  unfold M.setMany
  rw [e_bind]
  first
    | (refine aext ?_; intro d s)
    | (congr 1; funext d s)
  exact bind_out d s
@[simp] theorem e_for (m : M (List D)) (t : Tgt) (b : M Fl) (s : Sta) : M.for_ m t b s = (m s).andThen fun ds s => M.forL t b ds s := rfl
@[simp] theorem e_forL0 (t : Tgt) (b : M Fl) (s : Sta) : M.forL t b [] s = .ok .nx s := rfl
def loopK (k : M Fl) (f : Fl) (s : Sta) : Out Fl := match f with
  | .bk => .ok .nx s
  | .rt v => .ok (.rt v) s
  | _ => k s
@[simp] theorem loopK_nx (k : M Fl) (s : Sta) : loopK k .nx s = k s := rfl
@[simp] theorem loopK_ct (k : M Fl) (s : Sta) : loopK k .ct s = k s := rfl
@[simp] theorem loopK_bk (k : M Fl) (s : Sta) : loopK k .bk s = .ok .nx s := rfl
@[simp] theorem loopK_rt (k : M Fl) (v : D) (s : Sta) : loopK k (.rt v) s = .ok (.rt v) s := rfl
theorem e_forL (t : Tgt) (b : M Fl) (d : D) (ds : List D) (s : Sta) : M.forL t b (d :: ds) s = (M.bindTo t d s).andThen fun _ s => (b s).andThen (loopK (M.forL t b ds)) := by
  show (M.bindTo t d >>= _) s = _
  rw [e_bind]
  first
    | (refine aext ?_; intro _ s)
    | (congr 1; funext _ s)
  show (b >>= _) s = _
  rw [e_bind]
  first
    | (refine aext ?_; intro f s)
    | (congr 1; funext f s)
  cases f <;> rfl
def tupK {β : Type} (k : List D → Sta → Out β) (d : D) (s : Sta) : Out β := match d with
  | .tup l => k l s
  | _ => .stuck
@[simp] theorem tupK_tup (k : List D → Sta → Out β) (l : List D) (s : Sta) : tupK k (.tup l) s = k l s := rfl
@[simp] theorem e_bind1 (i : Nat) (d : D) (s : Sta) : M.bindTo (.one i) d s = if i < s.ρ.length then .ok .nx { s with ρ := s.ρ.set i (.val d) } else .stuck := rfl
@[simp] theorem e_bindM (is : List Nat) (d : D) (s : Sta) : M.bindTo (.many is) d s = tupK (fun ds s => (oOut (putAll is ds s.ρ) s).andThen fun ρ s => .ok .nx { s with ρ := ρ }) d s := by
  cases d with
  | tup l =>
    show (match putAll is l s.ρ with | some ρ => _ | none => _) = (oOut (putAll is l s.ρ) s).andThen _
    cases putAll is l s.ρ <;> rfl
  | _ => rfl
@[simp] theorem e_putAll0 (ρ : List Slot) : putAll [] [] ρ = some ρ := rfl
@[simp] theorem e_putAll (i : Nat) (is : List Nat) (d : D) (ds : List D) (ρ : List Slot) : putAll (i :: is) (d :: ds) ρ = if i < ρ.length then putAll is ds (ρ.set i (.val d)) else none := rfl
@[simp] theorem e_wipe0 (ρ : List Slot) : wipeR [] ρ = ρ := rfl
@[simp] theorem e_wipe (v : Nat) (vs : List Nat) (ρ : List Slot) : wipeR (v :: vs) ρ = (wipeR vs ρ).set v .no := rfl
def finF (o : Out Fl) : FOut := match o with
  | .ok (.rt d) s => .ok d s.G
  | .ok .nx s => .ok .non s.G
  | .exc e s => .exc e s.G
  | _ => .stuck
@[simp] theorem finF_rt (d : D) (s : Sta) : finF (.ok (.rt d) s) = .ok d s.G := rfl
@[simp] theorem finF_nx (s : Sta) : finF (.ok .nx s) = .ok .non s.G := rfl
@[simp] theorem finF_exc (d : D) (s : Sta) : finF (.exc d s) = .exc d s.G := rfl
@[simp] theorem finF_stuck : finF .stuck = .stuck := rfl
@[simp] theorem e_runFn (N n : Nat) (b : M Fl) (ds : List D) (G : List MO) : runFn N n b ds G = if ds.length = n then finF (b ⟨ds.map .val ++ List.replicate (N - n) .no, G⟩) else .stuck := by
  unfold runFn finF
  split
  · cases b ⟨ds.map .val ++ List.replicate (N - n) .no, G⟩ with
    | ok f s => cases f <;> rfl
    | _ => rfl
  · rfl
@[simp] theorem e_isL (o : D) (s : Sta) : M.isL o s = (oOut (o.seqL s) s).andThen fun _ s => .ok o s := by
  unfold M.isL
  rw [e_look]
  cases o.seqL s <;> rfl
@[simp] theorem e_mut (o : D) (f : MO → Option MO) (s : Sta) : M.mut o f s = (oOut (mutD s o f) s).andThen fun s' _ => .ok .non s' := by
  unfold M.mut
  cases mutD s o f <;> rfl
@[simp] theorem e_append (mo mv : M D) (s : Sta) : M.append mo mv s = (mo s).andThen fun o s => (M.isL o s).andThen fun o s => (mv s).andThen (outK fun v s => M.mut o (appF v) s) := by
  unfold M.append
  rw [e_bind]
  first
    | (refine aext ?_; intro o s)
    | (congr 1; funext o s)
  rw [e_bind]
  first
    | (refine aext ?_; intro o s)
    | (congr 1; funext o s)
  rw [e_bind]
  first
    | (refine aext ?_; intro v s)
    | (congr 1; funext v s)
  exact bind_out v s
@[simp] theorem e_setIx (mo mi mv : M D) (s : Sta) : M.setIx mo mi mv s = (mv s).andThen (outK fun v s => (mo s).andThen fun o s => (mi s).andThen (outK fun i s => (M.mut o (putF i v) s).andThen fun _ s => .ok .nx s)) := by
  unfold M.setIx
  rw [e_bind]
  first
    | (refine aext ?_; intro v s)
    | (congr 1; funext v s)
  rw [bind_out]
  first
    | (refine aext ?_; intro v s)
    | (congr 1; funext v s)
  rw [e_bind]
  first
    | (refine aext ?_; intro o s)
    | (congr 1; funext o s)
  rw [e_bind]
  first
    | (refine aext ?_; intro i s)
    | (congr 1; funext i s)
  exact bind_out i s
@[simp] theorem e_sc1 (g : D → Option D) (d : D) (s : Sta) : sc1 g d s = oOut (g d) s := e_look _ s
@[simp] theorem mutD_own (s : Sta) (i : Nat) (f : MO → Option MO) : mutD s (.own i) f = (match s.ρ[i]? with | some (.own mo) => (f mo).map fun mo' => { s with ρ := s.ρ.set i (.own mo') } | _ => none) := rfl
@[simp] theorem appF_lst (v : D) (l : List D) : appF v (.lst l) = if lenOk (l.length + 1) then some (.lst (l ++ [v])) else none := rfl
@[simp] theorem putF_lst (k : Int) (v : D) (l : List D) : Ms.putF (.int k) v (.lst l) = (ixN l.length k).map fun j => .lst (l.set j v) := rfl
@[simp] theorem seqL_own (s : Sta) (i : Nat) : (D.own i).seqL s = (match s.ρ[i]? with | some (.own (.lst l)) => some l | _ => none) := rfl
theorem e_compL0 (vs : List Nat) (t : Tgt) (c : M Bool) (e : M D) (s : Sta) : M.compL vs t c e [] s = .ok [] s := rfl
/-- a comprehension whose turns leave the state as it is -/
theorem compL_map {vs : List Nat} {t : Tgt} {e : M D} {s : Sta} (g : D → D) : ∀ (ds : List D), (∀ d ∈ ds, ∃ s1 s2, M.bindTo t d s = .ok .nx s1 ∧ e s1 = .ok (g d) s2 ∧ (g d).isOwn = false ∧ ({ s2 with ρ := wipeR vs s2.ρ } : Sta) = s) →
    M.compL vs t (pure true) e ds s = .ok (ds.map g) s
  | [], _ => rfl
  | d :: ds, h => by
    obtain ⟨s1, s2, h1, h2, h3, h4⟩ := h d List.mem_cons_self
    exact compL_t (s1 := s1) (s2 := s1) (s3 := s2) h1 rfl h2 h3 (by rw [h4]; exact compL_map g ds fun d hd => h d (List.mem_cons_of_mem _ hd))
theorem comp_map {vs : List Nat} {mi : M (List D)} {t : Tgt} {e : M D} {s s1 s' : Sta} {ds : List D} (g : D → D) (hi : mi s = .ok ds s1) (hl : lenOk (ds.length + 1) = true) (hs : ({ s1 with ρ := wipeR vs s1.ρ } : Sta) = s')
    (h : ∀ d ∈ ds, ∃ s1 s2, M.bindTo t d s' = .ok .nx s1 ∧ e s1 = .ok (g d) s2 ∧ (g d).isOwn = false ∧ ({ s2 with ρ := wipeR vs s2.ρ } : Sta) = s') : M.comp vs mi t (pure true) e s = .ok (ds.map g) s' := by
  refine comp_ok hi hl ?_
  rw [hs]
  exact compL_map g ds h
theorem compL_filter {vs : List Nat} {t : Tgt} {c : M Bool} {e : M D} {s : Sta} (g : D → D) (p : D → Bool) : ∀ (ds : List D), (∀ d ∈ ds, ∃ s1 s2 s3, M.bindTo t d s = .ok .nx s1 ∧ c s1 = .ok (p d) s2 ∧ ({ s2 with ρ := wipeR vs s2.ρ } : Sta) = s ∧ (p d = true → e s2 = .ok (g d) s3 ∧ (g d).isOwn = false ∧ ({ s3 with ρ := wipeR vs s3.ρ } : Sta) = s)) →
    M.compL vs t c e ds s = .ok ((ds.filter p).map g) s
  | [], _ => rfl
  | d :: ds, h => by
    obtain ⟨s1, s2, s3, h1, h2, h3, h4⟩ := h d List.mem_cons_self
    have ih := compL_filter g p ds fun d hd => h d (List.mem_cons_of_mem _ hd)
    cases hp : p d with
    | true =>
      obtain ⟨h5, h6, h7⟩ := h4 hp
      rw [hp] at h2
      rw [List.filter_cons, if_pos hp, List.map_cons]
      exact compL_t (s1 := s1) (s2 := s2) (s3 := s3) h1 h2 h5 h6 (by rw [h7]; exact ih)
    | false =>
      rw [hp] at h2
      rw [List.filter_cons, if_neg (by simp [hp])]
      exact compL_f (s1 := s1) (s2 := s2) h1 h2 (by rw [h3]; exact ih)
theorem comp_filter {vs : List Nat} {mi : M (List D)} {t : Tgt} {c : M Bool} {e : M D} {s s1 s' : Sta} {ds : List D} (g : D → D) (p : D → Bool) (hi : mi s = .ok ds s1) (hl : lenOk (ds.length + 1) = true) (hs : ({ s1 with ρ := wipeR vs s1.ρ } : Sta) = s')
    (h : ∀ d ∈ ds, ∃ s1 s2 s3, M.bindTo t d s' = .ok .nx s1 ∧ c s1 = .ok (p d) s2 ∧ ({ s2 with ρ := wipeR vs s2.ρ } : Sta) = s' ∧ (p d = true → e s2 = .ok (g d) s3 ∧ (g d).isOwn = false ∧ ({ s3 with ρ := wipeR vs s3.ρ } : Sta) = s')) : M.comp vs mi t c e s = .ok ((ds.filter p).map g) s' := by
  refine comp_ok hi hl ?_
  rw [hs]
  exact compL_filter g p ds h
end
@[simp] theorem io_int (i : Int) : (D.int i).isOwn = false := rfl
@[simp] theorem io_str (i : Str) : (D.str i).isOwn = false := rfl
@[simp] theorem io_bl (i : Bool) : (D.bl i).isOwn = false := rfl
@[simp] theorem io_non : D.non.isOwn = false := rfl
@[simp] theorem io_tup (l : List D) : (D.tup l).isOwn = false := rfl
@[simp] theorem io_lst (l : List D) : (D.lst l).isOwn = false := rfl
@[simp] theorem io_ref (g : Nat) : (D.ref g).isOwn = false := rfl
@[simp] theorem io_scr (l : List Int) : (D.scr l).isOwn = false := rfl
@[simp] theorem io_exc (c n : Str) (v : D) : (D.exc c n v).isOwn = false := rfl
@[simp] theorem io_dct (t : Nat) (c n : List D) : (D.dct t c n).isOwn = false := rfl
@[simp] theorem io_own (i : Nat) : (D.own i).isOwn = true := rfl
@[simp] theorem intD_ii (g : Int → Int → Option D) (i j : Int) : Ms.intD g (.int i) (.int j) = g i j := rfl
@[simp] theorem gSub_e (i j : Int) : gSub i j = some (.int (i - j)) := rfl
@[simp] theorem gLt_e (i j : Int) : gLt i j = some (.bl (decide (i < j))) := rfl
@[simp] theorem gLe_e (i j : Int) : gLe i j = some (.bl (decide (i ≤ j))) := rfl
@[simp] theorem gGt_e (i j : Int) : gGt i j = some (.bl (decide (j < i))) := rfl
@[simp] theorem gGe_e (i j : Int) : gGe i j = some (.bl (decide (j ≤ i))) := rfl
@[simp] theorem truD_bl (s : Sta) (b : Bool) : truD s (.bl b) = some b := rfl
@[simp] theorem truD_non (s : Sta) : truD s .non = some false := rfl
@[simp] theorem truD_int (s : Sta) (i : Int) : truD s (.int i) = some (i != 0) := rfl
@[simp] theorem truD_tup (s : Sta) (l : List D) : truD s (.tup l) = some (!l.isEmpty) := rfl
@[simp] theorem truD_lst (s : Sta) (l : List D) : truD s (.lst l) = some (!l.isEmpty) := rfl
@[simp] theorem truD_str (s : Sta) (x : Str) : truD s (.str x) = if lenOk x.length then some ((x.length : Int) != 0) else none := rfl
@[simp] theorem lenD_tup (s : Sta) (l : List D) : lenD s (.tup l) = some l.length := rfl
@[simp] theorem lenD_lst (s : Sta) (l : List D) : lenD s (.lst l) = some l.length := rfl
@[simp] theorem lenD_scr (s : Sta) (l : List Int) : lenD s (.scr l) = some l.length := rfl
@[simp] theorem lenD_str (s : Sta) (x : Str) : lenD s (.str x) = if lenOk x.length then some x.length else none := rfl
@[simp] theorem seqL_lst (s : Sta) (l : List D) : (D.lst l).seqL s = some l := rfl
@[simp] theorem items_tup (l : List D) : (D.tup l).items = some l := rfl
@[simp] theorem items_lst (l : List D) : (D.lst l).items = some l := rfl
@[simp] theorem items_str (x : Str) : (D.str x).items = some (signs x) := rfl
@[simp] theorem ixD_tup (s : Sta) (l : List D) (i : Int) : ixD s (.tup l) (.int i) = atI l i := rfl
@[simp] theorem ixD_lst (s : Sta) (l : List D) (i : Int) : ixD s (.lst l) (.int i) = atI l i := rfl
@[simp] theorem ixD_str (s : Sta) (z : Str) (i : Int) : ixD s (.str z) (.int i) = if lenOk z.length then (atI z.cps.toList i).map fun c => .str ⟨#[c]⟩ else none := rfl
@[simp] theorem slD_tup (s : Sta) (l : List D) (lo hi : Option Int) : slD s (.tup l) lo hi = some (.tup (cutD l lo hi)) := rfl
@[simp] theorem slD_lst (s : Sta) (l : List D) (lo hi : Option Int) : slD s (.lst l) lo hi = some (.lst (cutD l lo hi)) := rfl
@[simp] theorem slD_str (s : Sta) (z : Str) (lo hi : Option Int) : slD s (.str z) lo hi = if lenOk z.length then some (.str (cutS z lo hi)) else none := rfl
@[simp] theorem addD_int (s : Sta) (i j : Int) : addD s (.int i) (.int j) = some (.int (i + j)) := rfl
@[simp] theorem addD_str (s : Sta) (x y : Str) : addD s (.str x) (.str y) = if lenOk (x.length + y.length) then some (.str (x ++ y)) else none := rfl
@[simp] theorem addD_tup (s : Sta) (x y : List D) : addD s (.tup x) (.tup y) = if lenOk (x.length + y.length) then some (.tup (x ++ y)) else none := rfl
@[simp] theorem addD_lst (s : Sta) (x y : List D) : addD s (.lst x) (.lst y) = if lenOk (x.length + y.length) then some (.lst (x ++ y)) else none := rfl
@[simp] theorem tyS_non (s : Sta) : D.non.tyS s = some (.b "NoneType") := rfl
@[simp] theorem tyS_bl (s : Sta) (b : Bool) : (D.bl b).tyS s = some (.b "bool") := rfl
@[simp] theorem tyS_int (s : Sta) (b : Int) : (D.int b).tyS s = some (.b "int") := rfl
@[simp] theorem tyS_str (s : Sta) (b : Str) : (D.str b).tyS s = some (.b "str") := rfl
@[simp] theorem tyS_tup (s : Sta) (b : List D) : (D.tup b).tyS s = some (.b "tuple") := rfl
@[simp] theorem tyS_lst (s : Sta) (b : List D) : (D.lst b).tyS s = some (.b "list") := rfl
@[simp] theorem tyS_exc (s : Sta) (c n : Str) (d : D) : (D.exc c n d).tyS s = some (.x c) := rfl
@[simp] theorem asStrs_nil : asStrs [] = some [] := rfl
@[simp] theorem asStrs_cons (x : Str) (l : List D) : asStrs (.str x :: l) = (asStrs l).map (x :: ·) := rfl
theorem asStrs_strs (l : List Str) : asStrs (l.map .str) = some l := by
  induction l with
  | nil => rfl
  | cons x l ih => rw [List.map_cons, asStrs_cons, ih]; rfl
theorem asBls_bls {α : Type} (f : α → Bool) (l : List α) : asBls (l.map fun x => .bl (f x)) = some (l.map f) := by
  induction l with
  | nil => rfl
  | cons x l ih =>
    show (asBls _).map _ = _
    rw [ih]
    rfl
theorem asInts_ints {α : Type} (f : α → Int) (l : List α) : asInts (l.map fun x => .int (f x)) = some (l.map f) := by
  induction l with
  | nil => rfl
  | cons x l ih =>
    show (asInts _).map _ = _
    rw [ih]
    rfl
theorem lenOk_of {n : Nat} (h : n ≤ 16777216) : lenOk n = true := decide_eq_true h
theorem lenOk_le {n : Nat} (h : lenOk n = true) : n ≤ 16777216 := of_decide_eq_true h
/-- .. over things told by others -/
theorem comp_mapA {α : Type} {vs : List Nat} {mi : M (List D)} {t : Tgt} {e : M D} {s s1 s' : Sta} {xs : List α} {f : α → D} (g : α → D) (hi : mi s = .ok (xs.map f) s1) (hl : lenOk (xs.length + 1) = true) (hs : ({ s1 with ρ := wipeR vs s1.ρ } : Sta) = s')
    (h : ∀ a ∈ xs, ∃ s1 s2, M.bindTo t (f a) s' = .ok .nx s1 ∧ e s1 = .ok (g a) s2 ∧ (g a).isOwn = false ∧ ({ s2 with ρ := wipeR vs s2.ρ } : Sta) = s') : M.comp vs mi t (pure true) e s = .ok (xs.map g) s' := by
  refine comp_ok hi (by rw [List.length_map]; exact hl) ?_
  rw [hs]
  clear hi hl
  induction xs with
  | nil => rfl
  | cons a xs ih =>
    obtain ⟨s1, s2, h1, h2, h3, h4⟩ := h a List.mem_cons_self
    rw [List.map_cons, List.map_cons]
    exact compL_t (s1 := s1) (s2 := s1) (s3 := s2) h1 rfl h2 h3 (by rw [h4]; exact ih fun d hd => h d (List.mem_cons_of_mem _ hd))
def zipK (ds : List D) (s : Sta) : Out (List D) := match ds with
  | [.lst a, .lst b] => .ok (pairs a b) s
  | [.tup a, .tup b] => .ok (pairs a b) s
  | _ => .stuck
@[simp] theorem zipK_tup (a b : List D) (s : Sta) : zipK [.tup a, .tup b] s = .ok (pairs a b) s := rfl
@[simp] theorem zipK_lst (a b : List D) (s : Sta) : zipK [.lst a, .lst b] s = .ok (pairs a b) s := rfl
@[simp] theorem e_zip (ms : List (M D)) (s : Sta) : M.zip ms s = (M.args ms s).andThen zipK := by
  unfold M.zip
  rw [e_bind]
  first
    | (refine aext ?_; intro ds s)
    | (congr 1; funext ds s)
  rcases ds with _ | ⟨a, _ | ⟨b, _ | ⟨c, ds⟩⟩⟩
  · rfl
  · cases a <;> rfl
  · cases a <;> cases b <;> rfl
  · cases a <;> cases b <;> rfl
theorem pairs_zip (a b : List D) : pairs a b = (a.zip b).map fun q => .tup [q.1, q.2] := by
  unfold pairs
  rw [List.zip_eq_zipWith, List.map_zipWith]
theorem sIx_nat (n d : Nat) (k : Nat) : HT.sIx n d (some (k : Int)) = min k n := by
  simp [HT.sIx]
  try omega
theorem cutD_from (l : List D) (k : Nat) : cutD l (some (k : Int)) none = l.drop k := by
  unfold cutD
  rw [sIx_nat, show HT.sIx l.length l.length none = l.length from rfl]
  by_cases h : k ≤ l.length
  · rw [Nat.min_eq_left h]
    exact List.take_of_length_le (by rw [List.length_drop]; exact Nat.le_refl _)
  · rw [Nat.min_eq_right (by omega), List.drop_length, List.drop_eq_nil_of_le (by omega)]
    simp
@[simp] theorem cutD_1 (l : List D) : cutD l (some 1) none = l.drop 1 := cutD_from l 1
@[simp] theorem cutD_4 (l : List D) : cutD l (some 4) none = l.drop 4 := cutD_from l 4
@[simp] theorem cutD_2 (l : List D) : cutD l (some 2) none = l.drop 2 := cutD_from l 2
@[simp] theorem cutD_8 (l : List D) : cutD l (some 8) none = l.drop 8 := cutD_from l 8
theorem sIx_nat2 (n d : Nat) (k : Nat) : HT.sIx n d (some (k : Int)) = min k n := sIx_nat n d k
theorem cutD_to (l : List D) (a b : Nat) : cutD l (some (a : Int)) (some (b : Int)) = (l.drop a).take (b - a) := by
  unfold cutD
  rw [sIx_nat, sIx_nat]
  by_cases h : a ≤ l.length
  · rw [Nat.min_eq_left h]
    by_cases h2 : b ≤ l.length
    · rw [Nat.min_eq_left h2]
    · rw [Nat.min_eq_right (by omega), List.take_of_length_le (by rw [List.length_drop]; omega), List.take_of_length_le (by rw [List.length_drop]; omega)]
  · rw [Nat.min_eq_right (a := a) (by omega), List.drop_length, List.drop_eq_nil_of_le (by omega)]
    simp
@[simp] theorem inD_sign (s : Sta) (c : Nat) (z : Str) : inD s (.str ⟨#[c]⟩) (.str z) = some (decide (c ∈ z.cps.toList)) := rfl
theorem fIn_sign (neg : Bool) (s : Sta) (c : Nat) (z : Str) : fIn neg (.str ⟨#[c]⟩) (.str z) s = .ok (.bl (decide (c ∈ z.cps.toList) != neg)) s := rfl
theorem eqD_sc {s : Sta} {a b : D} {k : Bool} (h : scEq a b = some k) : eqD s a b = some k := by unfold eqD; rw [h]
@[simp] theorem eqD_int (s : Sta) (i j : Int) : eqD s (.int i) (.int j) = some (decide (i = j)) := rfl
@[simp] theorem eqD_str (s : Sta) (i j : Str) : eqD s (.str i) (.str j) = some (decide (i = j)) := rfl
@[simp] theorem eqD_bl (s : Sta) (i j : Bool) : eqD s (.bl i) (.bl j) = some (decide (i = j)) := rfl
@[simp] theorem eqD_nn (s : Sta) : eqD s .non .non = some true := rfl
@[simp] theorem ltD_int (s : Sta) (i j : Int) : ltD s (.int i) (.int j) = some (.bl (decide (i < j))) := rfl
theorem ltD_str (s : Sta) (x y : Str) : ltD s (.str x) (.str y) = some (.bl (PySem.W.dataLt (.str x) (.str y))) := by
  have h : (PySem.W.alike (.str x) (.str y) && !pyNone (.str x) && decide (min (PyData.str x).depth (PyData.str y).depth ≤ 60)) = true := by simp [PySem.W.alike, pyNone, PyData.depth]
  show (if (PySem.W.alike (.str x) (.str y) && !pyNone (.str x) && decide (min (PyData.str x).depth (PyData.str y).depth ≤ 60)) = true then some (D.bl (PySem.W.dataLt (.str x) (.str y))) else none) = _
  rw [h]
  rfl
theorem ltD_tup (s : Sta) {a b : List D} {p q : List PyData} (h1 : pyL a = some p) (h2 : pyL b = some q) (h3 : PySem.W.alike (.tuple p) (.tuple q) = true) (h4 : (PyData.tuple p).depth ≤ 60) : ltD s (.tup a) (.tup b) = some (.bl (PySem.W.dataLt (.tuple p) (.tuple q))) := by
  have h : (PySem.W.alike (.tuple p) (.tuple q) && !pyNone (.tuple p) && decide (min (PyData.tuple p).depth (PyData.tuple q).depth ≤ 60)) = true := by
    rw [h3, Bool.true_and, Bool.and_eq_true, decide_eq_true_eq]
    exact ⟨rfl, by omega⟩
  have e1 : (D.tup a).pyS s = some (.tuple p) := by
    show Option.map _ (pyL a) = _
    rw [h1]; rfl
  have e2 : (D.tup b).pyS s = some (.tuple q) := by
    show Option.map _ (pyL b) = _
    rw [h2]; rfl
  unfold ltD
  simp only [e1, e2, h]
  rfl
theorem atI_nat {α : Type} (l : List α) (n : Nat) : atI l (n : Int) = l[n]? := by
  unfold atI ixN
  rw [if_pos (by omega)]
  by_cases h : n < l.length
  · rw [if_pos (by omega)]
    simp
  · rw [if_neg (by omega), List.getElem?_eq_none (by omega)]
    rfl
@[simp] theorem atI_0 {α : Type} (l : List α) : atI l 0 = l[0]? := atI_nat l 0
@[simp] theorem atI_1 {α : Type} (l : List α) : atI l 1 = l[1]? := atI_nat l 1
@[simp] theorem atI_2 {α : Type} (l : List α) : atI l 2 = l[2]? := atI_nat l 2
@[simp] theorem atI_3 {α : Type} (l : List α) : atI l 3 = l[3]? := atI_nat l 3
@[simp] theorem atI_4 {α : Type} (l : List α) : atI l 4 = l[4]? := atI_nat l 4
@[simp] theorem atI_5 {α : Type} (l : List α) : atI l 5 = l[5]? := atI_nat l 5
@[simp] theorem atI_6 {α : Type} (l : List α) : atI l 6 = l[6]? := atI_nat l 6
@[simp] theorem atI_7 {α : Type} (l : List α) : atI l 7 = l[7]? := atI_nat l 7
@[simp] theorem atI_8 {α : Type} (l : List α) : atI l 8 = l[8]? := atI_nat l 8
theorem atI_neg {α : Type} (l : List α) (n : Nat) (h : 0 < n) : atI l (-(n : Int)) = if n ≤ l.length then l[l.length - n]? else none := by
  unfold atI ixN
  rw [if_neg (by omega)]
  by_cases h2 : n ≤ l.length
  · rw [if_pos (by omega), if_pos h2]
    show l[_]? = _
    congr 1
    omega
  · rw [if_neg (by omega), if_neg h2]
    rfl
@[simp] theorem atI_m1 {α : Type} (l : List α) : atI l (-1) = l.getLast? := by
  have h := atI_neg l 1 (by omega)
  rw [show (-(1 : Nat) : Int) = -1 from rfl] at h
  rw [h, List.getLast?_eq_getElem?]
  split
  · rfl
  · rw [List.getElem?_eq_none (by omega)]
/-! ### plain data, of a depth -/
def okN : Nat → D → Bool
  | _, .non => true
  | _, .bl _ => true
  | _, .int _ => true
  | _, .str x => lenOk x.length && PyData.strOk x
  | n + 1, .tup l => l.all (okN n)
  | n + 1, .lst l => l.all (okN n)
  | _, _ => false
theorem okN_up : ∀ {n m : Nat} {d : D}, n ≤ m → okN n d = true → okN m d = true
  | n, m, .non, _, _ => by cases m <;> rfl
  | n, m, .bl _, _, _ => by cases m <;> rfl
  | n, m, .int _, _, _ => by cases m <;> rfl
  | n, m, .str x, _, h => by
    have e : ∀ k, okN k (.str x) = (lenOk x.length && PyData.strOk x) := fun k => by cases k <;> rfl
    rw [e] at h ⊢
    exact h
  | 0, m, .tup l, _, h => by cases h
  | 0, m, .lst l, _, h => by cases h
  | n + 1, 0, d, hl, _ => absurd hl (by omega)
  | n + 1, m + 1, .tup l, hl, h => by
    have h : l.all (okN n) = true := h
    show l.all (okN m) = true
    rw [List.all_eq_true] at h ⊢
    exact fun d hd => okN_up (by omega) (h d hd)
  | n + 1, m + 1, .lst l, hl, h => by
    have h : l.all (okN n) = true := h
    show l.all (okN m) = true
    rw [List.all_eq_true] at h ⊢
    exact fun d hd => okN_up (by omega) (h d hd)
theorem okN_own {n : Nat} {d : D} (h : okN n d = true) : d.isOwn = false := by
  cases d <;> first | rfl | (cases n <;> cases h)
theorem okN_py : ∀ {n : Nat} {d : D}, okN n d = true → ∃ p, d.py = some p ∧ p.canLay0 = true ∧ p.depth ≤ n
  | n, .non, _ => ⟨_, rfl, by simp [PyData.canLay0], by simp [PyData.depth]⟩
  | n, .bl b, _ => ⟨_, rfl, by simp [PyData.canLay0], by simp [PyData.depth]⟩
  | n, .int b, _ => ⟨_, rfl, by simp [PyData.canLay0], by simp [PyData.depth]⟩
  | n, .str x, h => by
    have e : okN n (.str x) = (lenOk x.length && PyData.strOk x) := by cases n <;> rfl
    rw [e, Bool.and_eq_true] at h
    exact ⟨_, rfl, by simp [PyData.canLay0, h.2], by simp [PyData.depth]⟩
  | n + 1, .tup l, h => by
    have h : l.all (okN n) = true := h
    have go : ∀ l : List D, l.all (okN n) = true → ∃ ps, pyL l = some ps ∧ PyData.canLayAll0 ps = true ∧ PyData.depthAll ps ≤ n := fun l => by
      induction l with
      | nil => exact fun _ => ⟨[], rfl, by simp [PyData.canLayAll0], by simp [PyData.depthAll]⟩
      | cons d ds ih =>
        intro h
        rw [List.all_cons, Bool.and_eq_true] at h
        obtain ⟨p, e1, e2, e3⟩ := okN_py h.1
        obtain ⟨ps, f1, f2, f3⟩ := ih h.2
        exact ⟨p :: ps, by simp [pyL, e1, f1], by simp [PyData.canLayAll0, e2, f2], by simp [PyData.depthAll]; omega⟩
    obtain ⟨ps, e1, e2, e3⟩ := go l h
    exact ⟨.tuple ps, by simp [D.py, e1], by simp [PyData.canLay0, e2], by simp [PyData.depth]; omega⟩
  | n + 1, .lst l, h => by
    have h : l.all (okN n) = true := h
    have go : ∀ l : List D, l.all (okN n) = true → ∃ ps, pyL l = some ps ∧ PyData.canLayAll0 ps = true ∧ PyData.depthAll ps ≤ n := fun l => by
      induction l with
      | nil => exact fun _ => ⟨[], rfl, by simp [PyData.canLayAll0], by simp [PyData.depthAll]⟩
      | cons d ds ih =>
        intro h
        rw [List.all_cons, Bool.and_eq_true] at h
        obtain ⟨p, e1, e2, e3⟩ := okN_py h.1
        obtain ⟨ps, f1, f2, f3⟩ := ih h.2
        exact ⟨p :: ps, by simp [pyL, e1, f1], by simp [PyData.canLayAll0, e2, f2], by simp [PyData.depthAll]; omega⟩
    obtain ⟨ps, e1, e2, e3⟩ := go l h
    exact ⟨.list ps, by simp [D.py, e1], by simp [PyData.canLay0, e2], by simp [PyData.depth]; omega⟩
  | 0, .tup l, h => by cases h
  | 0, .lst l, h => by cases h
  | n, .dct _ _ _, h => by cases n <;> cases h
  | n, .exc _ _ _, h => by cases n <;> cases h
  | n, .ref _, h => by cases n <;> cases h
  | n, .own _, h => by cases n <;> cases h
  | n, .scr _, h => by cases n <;> cases h
theorem pyS_py {d : D} {p : PyData} (s : Sta) (h : d.py = some p) : d.pyS s = some p := by
  cases d <;> first | exact h | (simp [D.py] at h)
theorem shaped_of {p : PyData} {n : Nat} (h : p.canLay0 = true) (h2 : p.depth ≤ n) (hn : n ≤ 64) : SeqAt.shaped p = true := by
  unfold SeqAt.shaped
  rw [h, Bool.true_and, decide_eq_true_eq]
  omega
theorem scEq_self (d : D) : scEq d d = none ∨ scEq d d = some true := by
  cases d <;> simp [scEq]
theorem eqD_same {n : Nat} {d : D} (s : Sta) (h : okN n d = true) (hn : n ≤ 64) : eqD s d d = some true := by
  obtain ⟨p, e1, e2, e3⟩ := okN_py h
  exact eqD_refl (scEq_self d) (pyS_py s e1) (shaped_of e2 e3 hn)
theorem eqD_tup {n : Nat} {a b : List D} {p q : List PyData} (s : Sta) (h : okN n (.tup a) = true) (h2 : okN n (.tup b) = true) (hn : n ≤ 64) (e1 : pyL a = some p) (e2 : pyL b = some q) : eqD s (.tup a) (.tup b) = some (PyData.eqvAll p q) := by
  obtain ⟨p1, f1, f2, f3⟩ := okN_py h
  obtain ⟨q1, g1, g2, g3⟩ := okN_py h2
  have f1' := f1
  have g1' := g1
  simp [D.py, e1] at f1'
  simp [D.py, e2] at g1'
  subst f1' g1'
  have hs : (SeqAt.shaped (.tuple p) && SeqAt.shaped (.tuple q)) = true := by rw [shaped_of f2 f3 hn, shaped_of g2 g3 hn]; rfl
  unfold eqD
  show (match (.tup a : D).pyS s, (.tup b : D).pyS s with | some p, some q => if SeqAt.shaped p && SeqAt.shaped q then some (PyData.eqv p q) else none | _, _ => none) = _
  rw [pyS_py s f1, pyS_py s g1]
  simp only [hs, if_true, PyData.eqv]
theorem eqD_tup0 {n : Nat} {a : List D} (s : Sta) (h : okN n (.tup a) = true) (hn : n ≤ 64) : eqD s (.tup a) (.tup []) = some a.isEmpty := by
  cases n with
  | zero => cases h
  | succ n =>
    obtain ⟨p, e1, _⟩ := okN_py h
    simp [D.py] at e1
    obtain ⟨ps, e1, _⟩ := e1
    rw [eqD_tup s h (show okN (n + 1) (.tup []) = true from rfl) hn e1 rfl]
    cases a with
    | nil => simp [pyL] at e1; subst e1; simp [PyData.eqvAll]
    | cons d ds =>
      rw [pyL] at e1
      split at e1
      · cases e1; simp [PyData.eqvAll]
      · cases e1
/-! ### turns that change what is shared -/
theorem compL_inv {vs : List Nat} {t : Tgt} {e : M D} {ρ : List Slot} {I : List MO → Prop} {P : D → Prop} : ∀ (ds : List D), (∀ d ∈ ds, ∀ G, I G → ∃ y G' s1 s2, M.bindTo t d ⟨ρ, G⟩ = .ok .nx s1 ∧ e s1 = .ok y s2 ∧ y.isOwn = false ∧ ({ s2 with ρ := wipeR vs s2.ρ } : Sta) = ⟨ρ, G'⟩ ∧ P y ∧ I G') →
    ∀ G, I G → ∃ ys G', M.compL vs t (pure true) e ds ⟨ρ, G⟩ = .ok ys ⟨ρ, G'⟩ ∧ ys.length = ds.length ∧ (∀ y ∈ ys, P y) ∧ I G'
  | [], _, G, hI => ⟨[], G, rfl, rfl, by simp, hI⟩
  | d :: ds, h, G, hI => by
    obtain ⟨y, G1, s1, s2, h1, h2, h3, h4, h5, h6⟩ := h d List.mem_cons_self G hI
    obtain ⟨ys, G2, e1, e2, e3, e4⟩ := compL_inv ds (fun d hd => h d (List.mem_cons_of_mem _ hd)) G1 h6
    refine ⟨y :: ys, G2, compL_t (s1 := s1) (s2 := s1) (s3 := s2) h1 rfl h2 h3 (by rw [h4]; exact e1), by simpa using e2, fun z hz => ?_, e4⟩
    rcases List.mem_cons.mp hz with q | q
    · rw [q]; exact h5
    · exact e3 z q
theorem comp_inv {vs : List Nat} {mi : M (List D)} {t : Tgt} {e : M D} {s s1 : Sta} {ρ : List Slot} {G : List MO} {I : List MO → Prop} {P : D → Prop} {ds : List D} (hi : mi s = .ok ds s1) (hl : lenOk (ds.length + 1) = true) (hs : ({ s1 with ρ := wipeR vs s1.ρ } : Sta) = ⟨ρ, G⟩) (hI : I G)
    (h : ∀ d ∈ ds, ∀ G, I G → ∃ y G' s1 s2, M.bindTo t d ⟨ρ, G⟩ = .ok .nx s1 ∧ e s1 = .ok y s2 ∧ y.isOwn = false ∧ ({ s2 with ρ := wipeR vs s2.ρ } : Sta) = ⟨ρ, G'⟩ ∧ P y ∧ I G') : ∃ ys G', M.comp vs mi t (pure true) e s = .ok ys ⟨ρ, G'⟩ ∧ ys.length = ds.length ∧ (∀ y ∈ ys, P y) ∧ I G' := by
  obtain ⟨ys, G', e1, e2⟩ := compL_inv ds h G hI
  exact ⟨ys, G', comp_ok hi hl (by rw [hs]; exact e1), e2⟩
theorem forL_inv {t : Tgt} {b : M Fl} {I : Sta → Prop} : ∀ (ds : List D), (∀ d ∈ ds, ∀ s, I s → ∃ s1 s2, M.bindTo t d s = .ok .nx s1 ∧ b s1 = .ok .nx s2 ∧ I s2) → ∀ s, I s → ∃ s', M.forL t b ds s = .ok .nx s' ∧ I s'
  | [], _, s, hI => ⟨s, rfl, hI⟩
  | d :: ds, h, s, hI => by
    obtain ⟨s1, s2, h1, h2, h3⟩ := h d List.mem_cons_self s hI
    obtain ⟨s', e1, e2⟩ := forL_inv ds (fun d hd => h d (List.mem_cons_of_mem _ hd)) s2 h3
    exact ⟨s', by rw [forL_nx h1 h2]; exact e1, e2⟩
def rng1K (ds : List D) (s : Sta) : Out (List D) := match ds with
  | [.int n] => if -(2 ^ 62) ≤ n ∧ n < 2 ^ 62 then .ok (rngD 0 n.toNat) s else .stuck
  | _ => .stuck
@[simp] theorem rng1K_int (n : Int) (s : Sta) : rng1K [.int n] s = if -(2 ^ 62) ≤ n ∧ n < 2 ^ 62 then .ok (rngD 0 n.toNat) s else .stuck := rfl
@[simp] theorem e_range1 (ms : List (M D)) (s : Sta) : M.range1 ms s = (M.args ms s).andThen rng1K := by
  unfold M.range1
  rw [e_bind]
  first
    | (refine aext ?_; intro ds s)
    | (congr 1; funext ds s)
  rcases ds with _ | ⟨a, _ | ⟨b, ds⟩⟩
  · rfl
  · cases a <;> first | rfl | exact e_ite _ _ _ _
  · cases a <;> rfl
def rng2K (ds : List D) (s : Sta) : Out (List D) := match ds with
  | [.int a, .int b] => if -(2 ^ 62) ≤ a ∧ a < 2 ^ 62 ∧ -(2 ^ 62) ≤ b ∧ b < 2 ^ 62 then .ok (rngD a (b - a).toNat) s else .stuck
  | _ => .stuck
@[simp] theorem rng2K_int (a b : Int) (s : Sta) : rng2K [.int a, .int b] s = if -(2 ^ 62) ≤ a ∧ a < 2 ^ 62 ∧ -(2 ^ 62) ≤ b ∧ b < 2 ^ 62 then .ok (rngD a (b - a).toNat) s else .stuck := rfl
@[simp] theorem e_range2 (ms : List (M D)) (s : Sta) : M.range2 ms s = (M.args ms s).andThen rng2K := by
  unfold M.range2
  rw [e_bind]
  first
    | (refine aext ?_; intro ds s)
    | (congr 1; funext ds s)
  rcases ds with _ | ⟨a, _ | ⟨b, _ | ⟨c, ds⟩⟩⟩
  · rfl
  · cases a <;> rfl
  · cases a <;> cases b <;> first | rfl | exact e_ite _ _ _ _
  · cases a <;> cases b <;> rfl
@[simp] theorem seqL_ref (s : Sta) (g : Nat) : (D.ref g).seqL s = (match s.G[g]? with | some (.lst l) => some l | _ => none) := rfl
@[simp] theorem mutD_ref (s : Sta) (g : Nat) (f : MO → Option MO) : mutD s (.ref g) f = (match s.G[g]? with | some mo => (f mo).map fun mo' => { s with G := s.G.set g mo' } | _ => none) := rfl
theorem ixD_ref (s : Sta) (g : Nat) (i : Int) {l : List D} (h : s.G[g]? = some (.lst l)) : ixD s (.ref g) (.int i) = atI l i := by
  show (match (D.ref g).seqL s with | some l => atI l i | none => _) = _
  rw [seqL_ref, h]
theorem ixD_own (s : Sta) (g : Nat) (i : Int) {l : List D} (h : s.ρ[g]? = some (.own (.lst l))) : ixD s (.own g) (.int i) = atI l i := by
  show (match (D.own g).seqL s with | some l => atI l i | none => _) = _
  rw [seqL_own, h]
@[simp] theorem ixD_scr (s : Sta) (l : List Int) (i : Int) : ixD s (.scr l) (.int i) = (atI l i).map .int := rfl
@[simp] theorem e_newL (m : M (List D)) (s : Sta) : M.newL m s = (m s).andThen fun ds s => .ok (.ref s.G.length) { s with G := s.G ++ [.lst ds] } := rfl
@[simp] theorem gMin_e (i j : Int) : gMin i j = some (.int (if j < i then j else i)) := rfl
theorem gMod_e {i j : Int} (h : 0 < j) : gMod i j = some (.int (i % j)) := if_pos h
theorem gDiv_e {i j : Int} (h : 0 < j) (h2 : j.natAbs.log2 < 9000) : gDiv i j = some (.int (i / j)) := if_pos ⟨h, h2⟩
theorem gMul_e {i j : Int} (h : i.natAbs.log2 + j.natAbs.log2 < 1000000) : gMul i j = some (.int (i * j)) := if_pos h
theorem gPow_e {i j : Int} (h : 0 ≤ j ∧ j ≤ 1000000 ∧ i.natAbs < 2 ^ 64) : gPow i j = some (.int (i ^ j.toNat)) := if_pos h
theorem rngD_len (a : Int) (n : Nat) : (rngD a n).length = n := by simp [rngD]
end Ms
/-! Tx: texts as lists of signs; split, join, numbers. -/
namespace Ms
open PySem PySem.Spec PyProof.Rows L2 SX
/-- cut at each c -/
def spc (c : Nat) : List Nat → List (List Nat)
  | [] => [[]]
  | x :: r => if x = c then [] :: spc c r else match spc c r with
    | h :: t => (x :: h) :: t
    | [] => [[x]]
theorem spc_ne (c : Nat) : ∀ a : List Nat, spc c a ≠ []
  | [] => by simp [spc]
  | x :: r => by
    unfold spc
    split
    · simp
    · split <;> simp
theorem spl_spc (c : Nat) : ∀ (a acc : List Nat), TL.spl [c] 0 acc a = match spc c a with
    | h :: t => (acc ++ h) :: t
    | [] => [acc]
  | [], acc => by simp [TL.spl, spc]
  | x :: r, acc => by
    by_cases h : x = c
    · subst h
      have hp : TL.pre [x] (x :: r) = true := by simp [TL.pre]
      show (if TL.pre [x] (x :: r) = true then _ else _) = _
      rw [if_pos hp]
      simp only [spc, if_true, List.append_nil, List.length_singleton, Nat.sub_self]
      have ih := spl_spc x r []
      simp only [List.nil_append] at ih
      rw [show TL.spl [x] (1 - 1) [] r = TL.spl [x] 0 [] r from rfl, ih]
      cases e : spc x r with
      | nil => exact absurd e (spc_ne x r)
      | cons h t => rfl
    · have hp : TL.pre [c] (x :: r) = false := by simp [TL.pre, h]
      show (if TL.pre [c] (x :: r) = true then _ else _) = _
      rw [hp]
      simp only [Bool.false_eq_true, if_false]
      rw [spl_spc c r (acc ++ [x])]
      simp only [spc, if_neg h]
      cases e : spc c r with
      | nil => exact absurd e (spc_ne c r)
      | cons h t => simp
theorem split_spc {c : Nat} (hc : c < 256) (a : List Nat) : Txt.split (S a) (S [c]) = (spc c a).map S := by
  rw [split_S (by simp) (by simpa using hc), spl_spc]
  cases e : spc c a with
  | nil => exact absurd e (spc_ne c a)
  | cons h t => rfl
theorem spc_mem {c : Nat} : ∀ {a p : List Nat} {x : Nat}, p ∈ spc c a → x ∈ p → x ∈ a
  | [], p, x, h, hx => by simp [spc] at h; subst h; cases hx
  | y :: r, p, x, h, hx => by
    unfold spc at h
    split at h
    · rcases List.mem_cons.mp h with h | h
      · subst h; cases hx
      · exact List.mem_cons_of_mem _ (spc_mem h hx)
    · split at h
      · rename_i hd t e
        rcases List.mem_cons.mp h with h | h
        · subst h
          rcases List.mem_cons.mp hx with q | q
          · rw [q]; exact List.mem_cons_self
          · exact List.mem_cons_of_mem _ (spc_mem (p := hd) (by rw [e]; exact List.mem_cons_self) q)
        · exact List.mem_cons_of_mem _ (spc_mem (p := p) (by rw [e]; exact List.mem_cons_of_mem _ h) hx)
      · rename_i e
        exact absurd e (spc_ne c r)
theorem spc_free {c : Nat} : ∀ {a p : List Nat}, p ∈ spc c a → c ∉ p
  | [], p, h => by simp [spc] at h; subst h; simp
  | y :: r, p, h => by
    unfold spc at h
    split at h
    · rcases List.mem_cons.mp h with h | h
      · subst h; simp
      · exact spc_free h
    · rename_i hy
      split at h
      · rename_i hd t e
        rcases List.mem_cons.mp h with h | h
        · subst h
          intro q
          rcases List.mem_cons.mp q with q | q
          · exact hy q.symm
          · exact spc_free (a := r) (p := hd) (by rw [e]; exact List.mem_cons_self) q
        · exact spc_free (a := r) (p := p) (by rw [e]; exact List.mem_cons_of_mem _ h)
      · rename_i e
        exact absurd e (spc_ne c r)
/-- all signs and the cuts -/
def wgt (ps : List (List Nat)) : Nat := (ps.map (·.length)).sum + ps.length
theorem wgt_cons (p : List Nat) (ps : List (List Nat)) : wgt (p :: ps) = p.length + 1 + wgt ps := by
  unfold wgt
  simp
  omega
theorem spc_wgt (c : Nat) : ∀ a : List Nat, wgt (spc c a) = a.length + 1
  | [] => rfl
  | x :: r => by
    have ih := spc_wgt c r
    unfold spc
    split
    · rw [wgt_cons, ih]
      simp
      omega
    · cases e : spc c r with
      | nil => exact absurd e (spc_ne c r)
      | cons h t =>
        rw [e, wgt_cons] at ih
        show wgt ((x :: h) :: t) = _
        rw [wgt_cons]
        simp
        omega
theorem wgt_mem {p : List Nat} {ps : List (List Nat)} (h : p ∈ ps) : p.length + 1 ≤ wgt ps := by
  induction ps with
  | nil => cases h
  | cons q ps ih =>
    rw [wgt_cons]
    rcases List.mem_cons.mp h with h | h
    · subst h; omega
    · have := ih h; omega
theorem wgt_tail (p : List Nat) (ps : List (List Nat)) : wgt ps ≤ wgt (p :: ps) := by rw [wgt_cons]; omega
theorem wgt_len (ps : List (List Nat)) : ps.length ≤ wgt ps := by unfold wgt; omega
theorem spc_len {c : Nat} {a p : List Nat} (h : p ∈ spc c a) : p.length ≤ a.length := by
  have := wgt_mem h
  rw [spc_wgt] at this
  omega
abbrev joi (c : Nat) (ps : List (List Nat)) : List Nat := TL.joinL [c] ps
theorem joi_len (c : Nat) : ∀ ps : List (List Nat), (joi c ps).length ≤ wgt ps
  | [] => Nat.zero_le _
  | [p] => by rw [wgt_cons]; show p.length ≤ _; omega
  | p :: q :: r => by
    have ih := joi_len c (q :: r)
    rw [wgt_cons]
    show (p ++ ([c] ++ joi c (q :: r))).length ≤ _
    simp
    omega
theorem joi_mem {c x : Nat} : ∀ {ps : List (List Nat)}, x ∈ joi c ps → x = c ∨ ∃ p ∈ ps, x ∈ p
  | [], h => by cases h
  | [p], h => .inr ⟨p, List.mem_cons_self, h⟩
  | p :: q :: r, h => by
    have h : x ∈ p ++ ([c] ++ joi c (q :: r)) := h
    rcases List.mem_append.mp h with h | h
    · exact .inr ⟨p, List.mem_cons_self, h⟩
    · rcases List.mem_append.mp h with h | h
      · exact .inl (by simpa using h)
      · rcases joi_mem h with h | ⟨z, hz, hx⟩
        · exact .inl h
        · exact .inr ⟨z, List.mem_cons_of_mem _ hz, hx⟩
theorem spc_joi {c : Nat} {ps : List (List Nat)} (hne : ps ≠ []) (h : ∀ p ∈ ps, c ∉ p) : spc c (joi c ps) = ps := by
  have e := TL.spl_join (s := c) (S := []) hne h
  rw [spl_spc] at e
  cases es : spc c (TL.joinL [c] ps) with
  | nil => exact absurd es (spc_ne _ _)
  | cons hd t =>
    rw [es] at e
    exact e
theorem joi_spc (c : Nat) : ∀ a : List Nat, joi c (spc c a) = a
  | [] => rfl
  | x :: r => by
    have ih := joi_spc c r
    unfold spc
    split
    · rename_i h
      cases e : spc c r with
      | nil => exact absurd e (spc_ne c r)
      | cons hd t =>
        rw [e] at ih
        show [] ++ ([c] ++ joi c (hd :: t)) = _
        rw [ih, h]
        rfl
    · cases e : spc c r with
      | nil => exact absurd e (spc_ne c r)
      | cons hd t =>
        rw [e] at ih
        show joi c ((x :: hd) :: t) = _
        cases t with
        | nil => show x :: hd = _; rw [← ih]; rfl
        | cons q t =>
          show (x :: hd) ++ ([c] ++ joi c (q :: t)) = _
          rw [← ih]
          rfl
theorem spc_app {c : Nat} {p : List Nat} (h : c ∉ p) (q : List Nat) : spc c (p ++ c :: q) = p :: spc c q := by
  induction p with
  | nil => simp [spc]
  | cons x p ih =>
    have hx : x ≠ c := fun z => h (by rw [z]; exact List.mem_cons_self)
    rw [List.cons_append, spc, if_neg hx, ih fun z => h (List.mem_cons_of_mem _ z)]
theorem spc_none {c : Nat} {p : List Nat} (h : c ∉ p) : spc c p = [p] := by
  induction p with
  | nil => rfl
  | cons x p ih =>
    have hx : x ≠ c := fun z => h (by rw [z]; exact List.mem_cons_self)
    show (if x = c then _ else _) = _
    rw [if_neg hx, ih fun z => h (List.mem_cons_of_mem _ z)]
/-! ### numbers -/
def figC (c : Nat) : Bool := decide (48 ≤ c) && decide (c ≤ 57)
def numL (a : List Nat) : Option Nat := if (decide (1 ≤ a.length) && (decide (a.length ≤ 7) && a.all figC)) = true then if a.head? = some 48 ∧ a ≠ [48] then none else some (NumText.digitsVal a) else none
def optI : Option Nat → D
  | some n => .int (n : Nat)
  | none => .non
theorem figs_ok (c : Nat) : decide (c ∈ (Str.ofString "0123456789").cps.toList) = figC c := by
  have e : (Str.ofString "0123456789").cps.toList = [48, 49, 50, 51, 52, 53, 54, 55, 56, 57] := by decide +kernel
  rw [e]
  unfold figC
  by_cases h : 48 ≤ c ∧ c ≤ 57
  · have : c = 48 ∨ c = 49 ∨ c = 50 ∨ c = 51 ∨ c = 52 ∨ c = 53 ∨ c = 54 ∨ c = 55 ∨ c = 56 ∨ c = 57 := by omega
    rcases this with h | h | h | h | h | h | h | h | h | h <;> subst h <;> decide
  · have h1 : ¬ c ∈ [48, 49, 50, 51, 52, 53, 54, 55, 56, 57] := by simp; omega
    rw [decide_eq_false h1]
    rcases Nat.lt_or_ge c 48 with h2 | h2
    · rw [decide_eq_false (by omega)]; rfl
    · rw [decide_eq_false (p := c ≤ 57) (by omega), Bool.and_false]
theorem numL_num {n : Nat} (h : n < 10000000) : numL (TL.numL n) = some n := by
  have h1 : 1 ≤ (TL.numL n).length := List.length_pos_iff.mpr (TL.numL_ne n)
  have h2 : (TL.numL n).length ≤ 7 := TL.numL_len (by omega) (by omega)
  have h3 : (TL.numL n).all figC = true := by
    rw [List.all_eq_true]
    intro c hc
    have := TL.numL_digits n c hc
    unfold figC
    simp
    omega
  unfold numL
  rw [if_pos (by simp [h1, h2, h3]), if_neg, TL.numL_val]
  rintro ⟨e1, e2⟩
  -- no zero in front
  by_cases h10 : n < 10
  · rw [TL.numL_lt h10] at e1 e2
    simp at e1 e2
    omega
  · have go : ∀ m : Nat, 0 < m → (TL.numL m).head? ≠ some 48 := by
      intro m
      induction m using Nat.strongRecOn with
      | _ m ih =>
        intro hm
        by_cases hm10 : m < 10
        · rw [TL.numL_lt hm10]
          simp
          omega
        · rw [TL.numL_step (by omega)]
          cases e : TL.numL (m / 10) with
          | nil => exact absurd e (TL.numL_ne _)
          | cons y ys =>
            have := ih (m / 10) (by omega) (by omega)
            rw [e] at this
            exact this
    exact go n (by omega) e1
theorem S_str (x : Str) : S x.cps.toList = x := S_tl x
theorem strOk_S {a : List Nat} (h : ∀ c ∈ a, c < 0x110000) : PyData.strOk (S a) = true := by
  unfold PyData.strOk
  rw [Array.all_eq_true_iff_forall_mem]
  intro c hc
  exact decide_eq_true (h c (by simpa using hc))
theorem okN_S {n : Nat} {a : List Nat} (h : ∀ c ∈ a, c < 0x110000) (hl : a.length ≤ 16777216) : okN n (.str (S a)) = true := by
  have e : okN n (.str (S a)) = (lenOk (S a).length && PyData.strOk (S a)) := by cases n <;> rfl
  rw [e, strOk_S h, S_len, lenOk_of hl]
  rfl
theorem okN_optI {n : Nat} (o : Option Nat) : okN n (optI o) = true := by
  cases o <;> cases n <;> rfl
/-! ### more computations -/
def starK (i j : Nat) (d : D) (s : Sta) : Out Fl := match d with
  | .tup (x :: xs) => if xs.length ≤ 16000 then M.seq (M.put i (.val x)) (M.put j (.val (.lst xs))) s else .stuck
  | .lst (x :: xs) => if xs.length ≤ 16000 then M.seq (M.put i (.val x)) (M.put j (.val (.lst xs))) s else .stuck
  | _ => .stuck
@[simp] theorem starK_tup (i j : Nat) (x : D) (xs : List D) (s : Sta) : starK i j (.tup (x :: xs)) s = if xs.length ≤ 16000 then M.seq (M.put i (.val x)) (M.put j (.val (.lst xs))) s else .stuck := rfl
@[simp] theorem starK_lst (i j : Nat) (x : D) (xs : List D) (s : Sta) : starK i j (.lst (x :: xs)) s = if xs.length ≤ 16000 then M.seq (M.put i (.val x)) (M.put j (.val (.lst xs))) s else .stuck := rfl
@[simp] theorem e_setStar (i j : Nat) (m : M D) (s : Sta) : M.setStar i j m s = (m s).andThen (starK i j) := by
  unfold M.setStar
  rw [e_bind]
  first
    | (refine aext ?_; intro d s)
    | (congr 1; funext d s)
  cases d with
  | tup l => cases l with
    | nil => rfl
    | cons x xs => exact e_ite _ _ _ _
  | lst l => cases l with
    | nil => rfl
    | cons x xs => exact e_ite _ _ _ _
  | _ => rfl
@[simp] theorem e_raise (m : M D) (s : Sta) : M.raise m s = (m s).andThen fun d s => .exc d s := rfl
@[simp] theorem e_mkX (c fl : Str) (n m : Nat) (pick : List D → List D → D) (ms mks : List (M D)) (s : Sta) : M.mkX c fl n m pick ms mks s = (M.args ms s).andThen fun ds s => (M.args mks s).andThen fun es s => if ds.length = n ∧ es.length = m then .ok (.exc c fl (pick ds es)) s else .stuck := by
  unfold M.mkX
  rw [e_bind]
  first
    | (refine aext ?_; intro ds s)
    | (congr 1; funext ds s)
  rw [e_bind]
  first
    | (refine aext ?_; intro es s)
    | (congr 1; funext es s)
  exact e_ite _ _ _ _
def enumK (ds : List D) (s : Sta) : Out (List D) := match ds with
  | [.lst l] => .ok (numbered l) s
  | _ => .stuck
@[simp] theorem enumK_lst (l : List D) (s : Sta) : enumK [.lst l] s = .ok (numbered l) s := rfl
@[simp] theorem e_enum (ms : List (M D)) (s : Sta) : M.enum ms s = (M.args ms s).andThen enumK := by
  unfold M.enum
  rw [e_bind]
  first
    | (refine aext ?_; intro ds s)
    | (congr 1; funext ds s)
  rcases ds with _ | ⟨a, _ | ⟨b, ds⟩⟩
  · rfl
  · cases a <;> rfl
  · cases a <;> rfl
@[simp] theorem isD_non (neg : Bool) (s : Sta) (d : D) : isD neg s d .non = some (.bl (d.isNon != neg)) := rfl
theorem splitD_str (a b : Str) : splitD (.str a) (.str b) = if (b.length == 0) = false ∧ a.length + 2 ≤ 16777216 then some (.lst ((Txt.split a b).map .str)) else none := rfl
theorem joinD_strs (s : Sta) (a : Str) (ys : List Str) (h : (ys.map (·.length)).sum + ys.length * a.length ≤ 16777216) : joinD s (.str a) (.lst (ys.map .str)) = some (.str (Txt.join a ys)) := by
  show (asStrs (ys.map D.str)).bind _ = _
  rw [asStrs_strs]
  exact if_pos h
theorem lens_S (ps : List (List Nat)) : ((ps.map S).map (·.length)).sum = (ps.map (·.length)).sum := by
  rw [SX.lens]
/-- .. by one sign -/
theorem joinD_joi (s : Sta) (c : Nat) (ps : List (List Nat)) (h : wgt ps ≤ 16777216) : joinD s (.str (S [c])) (.lst (ps.map fun p => .str (S p))) = some (.str (S (joi c ps))) := by
  have e : (ps.map fun p => D.str (S p)) = (ps.map S).map .str := by rw [List.map_map]; rfl
  rw [e, joinD_strs, join_S]
  rw [lens_S, List.length_map, S_len]
  unfold wgt at h
  simp
  exact h
theorem joinD_nil (s : Sta) (c : Nat) : joinD s (.str (S [c])) (.lst []) = some (.str (S [])) := joinD_joi s c [] (by decide)
theorem splitD_spc {c : Nat} (hc : c < 256) {a : List Nat} (h : a.length ≤ 16777000) : splitD (.str (S a)) (.str (S [c])) = some (.lst ((spc c a).map fun p => .str (S p))) := by
  rw [splitD_str, if_pos ⟨by simp [S_len], by rw [S_len]; omega⟩, split_spc hc, List.map_map]
  rfl
def lstK {β : Type} (k : List D → Sta → Out β) (d : D) (s : Sta) : Out β := match d with
  | .lst l => k l s
  | _ => .stuck
@[simp] theorem lstK_lst {β : Type} (k : List D → Sta → Out β) (l : List D) (s : Sta) : lstK k (.lst l) s = k l s := rfl
@[simp] theorem e_bindL (is : List Nat) (d : D) (s : Sta) : M.bindL is d s = lstK (fun ds s => (oOut (putAll is ds s.ρ) s).andThen fun ρ s => .ok .nx { s with ρ := ρ }) d s := by
  cases d with
  | lst l =>
    show (match putAll is l s.ρ with | some ρ => _ | none => _) = (oOut (putAll is l s.ρ) s).andThen _
    cases putAll is l s.ρ <;> rfl
  | _ => rfl
@[simp] theorem e_setManyL (is : List Nat) (m : M D) (s : Sta) : M.setManyL is m s = (m s).andThen (outK fun d s => M.bindL is d s) := by
  unfold M.setManyL
  rw [e_bind]
  first
    | (refine aext ?_; intro d s)
    | (congr 1; funext d s)
  exact bind_out d s
end Ms
namespace Pw
open PySem PySem.Spec PyProof.Rows L2 Ms
/-! ### what things are -/
mutual
/-- plain data of a size -/
def gd : D → Bool
  | .non | .bl _ | .int _ => true
  | .str x => lenOk x.length
  | .tup l => gdL l
  | .lst l => gdL l
  | _ => false
def gdL : List D → Bool
  | [] => true
  | d :: ds => gd d && gdL ds
end
theorem gdL_all : ∀ {l : List D}, gdL l = true ↔ ∀ d ∈ l, gd d = true
  | [] => by simp [gdL]
  | d :: ds => by simp [gdL, gdL_all (l := ds)]
theorem gd_own {d : D} (h : gd d = true) : d.isOwn = false := by cases d <;> first | rfl | (simp [gd] at h)
@[simp] theorem own_gd {d : D} (h : gd d = true) : d.isOwn = false := gd_own h
@[simp] theorem outK_gd {β : Type} {k : D → Sta → Out β} {d : D} {s : Sta} (h : gd d = true) : outK k d s = k d s := outK_no (gd_own h)
def isInt : D → Bool
  | .int _ => true
  | _ => false
def isStr : D → Bool
  | .str _ => true
  | _ => false
def isTup : D → Bool
  | .tup _ => true
  | _ => false
@[simp] theorem kv_int_int : kf_int (.b "int") = some true := by kernel_rfl
@[simp] theorem kv_int_bool : kf_int (.b "bool") = some true := by kernel_rfl
@[simp] theorem kv_int_str : kf_int (.b "str") = some false := by kernel_rfl
@[simp] theorem kv_int_tuple : kf_int (.b "tuple") = some false := by kernel_rfl
@[simp] theorem kv_int_list : kf_int (.b "list") = some false := by kernel_rfl
@[simp] theorem kv_int_dict : kf_int (.b "dict") = some false := by kernel_rfl
@[simp] theorem kv_int_NoneType : kf_int (.b "NoneType") = some false := by kernel_rfl
@[simp] theorem kv_bool_int : kf_bool (.b "int") = some false := by kernel_rfl
@[simp] theorem kv_bool_bool : kf_bool (.b "bool") = some true := by kernel_rfl
@[simp] theorem kv_bool_str : kf_bool (.b "str") = some false := by kernel_rfl
@[simp] theorem kv_bool_tuple : kf_bool (.b "tuple") = some false := by kernel_rfl
@[simp] theorem kv_bool_list : kf_bool (.b "list") = some false := by kernel_rfl
@[simp] theorem kv_bool_dict : kf_bool (.b "dict") = some false := by kernel_rfl
@[simp] theorem kv_bool_NoneType : kf_bool (.b "NoneType") = some false := by kernel_rfl
@[simp] theorem kv_str_int : kf_str (.b "int") = some false := by kernel_rfl
@[simp] theorem kv_str_bool : kf_str (.b "bool") = some false := by kernel_rfl
@[simp] theorem kv_str_str : kf_str (.b "str") = some true := by kernel_rfl
@[simp] theorem kv_str_tuple : kf_str (.b "tuple") = some false := by kernel_rfl
@[simp] theorem kv_str_list : kf_str (.b "list") = some false := by kernel_rfl
@[simp] theorem kv_str_dict : kf_str (.b "dict") = some false := by kernel_rfl
@[simp] theorem kv_str_NoneType : kf_str (.b "NoneType") = some false := by kernel_rfl
@[simp] theorem kv_tuple_int : kf_tuple (.b "int") = some false := by kernel_rfl
@[simp] theorem kv_tuple_bool : kf_tuple (.b "bool") = some false := by kernel_rfl
@[simp] theorem kv_tuple_str : kf_tuple (.b "str") = some false := by kernel_rfl
@[simp] theorem kv_tuple_tuple : kf_tuple (.b "tuple") = some true := by kernel_rfl
@[simp] theorem kv_tuple_list : kf_tuple (.b "list") = some false := by kernel_rfl
@[simp] theorem kv_tuple_dict : kf_tuple (.b "dict") = some false := by kernel_rfl
@[simp] theorem kv_tuple_NoneType : kf_tuple (.b "NoneType") = some false := by kernel_rfl
@[simp] theorem is_whole_ok {d : D} (G : List MO) (h : gd d = true) : m_is_whole [d] G = .ok (.bl (isInt d)) G := by
  cases d <;> simp [gd] at h <;> simp [m_is_whole, b_is_whole, isInt]
def withinD (d : D) (a b : Int) : Bool := match d with
  | .int i => decide (a ≤ i) && decide (i ≤ b)
  | _ => false
@[simp] theorem is_within_ok {d : D} (a b : Int) (G : List MO) (h : gd d = true) : m_is_within [d, .int a, .int b] G = .ok (.bl (withinD d a b)) G := by
  have ow := gd_own h
  simp [m_is_within, b_is_within, h, outK_no ow]
  cases d <;> simp [isInt, withinD]
  split <;> simp [*]
def abcS : Str := "abcdefghijklmnopqrstuvwxyz"
def figS : Str := "0123456789"
def nameB (x : Str) : Bool := decide (1 ≤ x.length) && (decide (x.length ≤ 8) && x.cps.toList.all fun c => decide (c ∈ abcS.cps.toList))
def isName : D → Bool
  | .str x => nameB x
  | _ => false
theorem signs_map (x : Str) : Ms.signs x = x.cps.toList.map fun c => D.str ⟨#[c]⟩ := rfl
theorem len_cps (x : Str) : x.cps.toList.length = x.length := by simp [Str.length]
theorem c_is_name_ok (x : Str) (G : List MO) (h : x.length ≤ 16777215) : c_is_name_0 ⟨[.val (.str x), .no], G⟩ = .ok (x.cps.toList.map fun c => .bl (decide (c ∈ abcS.cps.toList))) ⟨[.val (.str x), .no], G⟩ := by
  refine comp_mapA (f := fun c => .str ⟨#[c]⟩) _ (s1 := ⟨[.val (.str x), .no], G⟩) (by simp [signs_map]) (lenOk_of (by rw [len_cps]; omega)) rfl fun c _ => ⟨⟨[.val (.str x), .val (.str ⟨#[c]⟩)], G⟩, ⟨[.val (.str x), .val (.str ⟨#[c]⟩)], G⟩, rfl, by simp [abcS], rfl, rfl⟩
theorem le_int {a b : Nat} : ((a : Int) ≤ (b : Int)) ↔ a ≤ b := by omega
@[simp] theorem is_name_ok {d : D} (G : List MO) (h : gd d = true) : m_is_name [d] G = .ok (.bl (isName d)) G := by
  cases d with
  | str x =>
    have hl : lenOk x.length = true := h
    have hl2 := lenOk_le hl
    simp [m_is_name, b_is_name, isName, nameB, hl]
    by_cases h1 : (1 : Int) ≤ x.length
    · by_cases h2 : (x.length : Int) ≤ 8
      · have h3 : 1 ≤ x.length := by omega
        have h4 : x.length ≤ 8 := by omega
        simp [h1, h2, h3, h4, c_is_name_ok x G (by omega), asBls_bls]
      · have h4 : ¬ x.length ≤ 8 := by omega
        simp [h1, h2, h4]
    · have h3 : x.length = 0 := by omega
      simp [h3]
  | _ => first | (simp [gd] at h; done) | simp [m_is_name, b_is_name, isName]
def isSpan : D → Bool
  | .tup [a, b, c] => isName a && (withinD b 0 1000000 && (withinD c 0 1000000 && match b, c with
    | .int i, .int j => decide (i < j)
    | _, _ => false))
  | _ => false
theorem len3 {α : Type} : ∀ (l : List α), l.length = 3 → ∃ a b c, l = [a, b, c]
  | [a, b, c], _ => ⟨a, b, c, rfl⟩
theorem len2 {α : Type} : ∀ (l : List α), l.length = 2 → ∃ a b, l = [a, b]
  | [a, b], _ => ⟨a, b, rfl⟩
theorem within_int {d : D} {a b : Int} (h : withinD d a b = true) : ∃ i, d = .int i ∧ a ≤ i ∧ i ≤ b := by
  cases d <;> simp [withinD] at h
  exact ⟨_, rfl, h⟩
@[simp] theorem is_span_ok {d : D} (G : List MO) (h : gd d = true) : m_is_span [d] G = .ok (.bl (isSpan d)) G := by
  cases d with
  | tup l =>
    by_cases hl : l.length = 3
    · obtain ⟨a, b, c, rfl⟩ := len3 l hl
      simp [gd, gdL] at h
      obtain ⟨ha, hb, hc⟩ := h
      cases hn : isName a with
      | false => simp [m_is_span, b_is_span, isSpan, *]
      | true =>
        cases h1 : withinD b 0 1000000 with
        | false => simp [m_is_span, b_is_span, isSpan, *]
        | true =>
          cases h2 : withinD c 0 1000000 with
          | false => simp [m_is_span, b_is_span, isSpan, *]
          | true =>
            obtain ⟨i, rfl, _⟩ := within_int h1
            obtain ⟨j, rfl, _⟩ := within_int h2
            simp [m_is_span, b_is_span, isSpan, *]
    · have h2 : ¬ (l.length : Int) = 3 := by omega
      have h3 : isSpan (.tup l) = false := by
        unfold isSpan
        split
        · rename_i e
          cases e
          exact absurd rfl hl
        · rfl
      simp [m_is_span, b_is_span, h2, h3]
  | _ => first | (simp [gd] at h; done) | simp [m_is_span, b_is_span, isSpan]
def isId : D → Bool
  | .tup [a, b] => isName a && withinD b 0 999999
  | _ => false
@[simp] theorem is_id_ok {d : D} (G : List MO) (h : gd d = true) : m_is_id [d] G = .ok (.bl (isId d)) G := by
  cases d with
  | tup l =>
    by_cases hl : l.length = 2
    · obtain ⟨a, b, rfl⟩ := len2 l hl
      simp [gd, gdL] at h
      obtain ⟨ha, hb⟩ := h
      cases hn : isName a with
      | false => simp [m_is_id, b_is_id, isId, *]
      | true => simp [m_is_id, b_is_id, isId, *]
    · have h2 : ¬ (l.length : Int) = 2 := by omega
      have h3 : isId (.tup l) = false := by
        unfold isId
        split
        · rename_i e
          cases e
          exact absurd rfl hl
        · rfl
      simp [m_is_id, b_is_id, h2, h3]
  | _ => first | (simp [gd] at h; done) | simp [m_is_id, b_is_id, isId]
end Pw
namespace Pw
open PySem PySem.Spec PyProof.Rows L2 Ms
theorem name_str {d : D} (h : isName d = true) : ∃ x, d = .str x ∧ nameB x = true := by
  cases d <;> simp [isName] at h
  exact ⟨_, rfl, h⟩
theorem span_inv {d : D} (h : isSpan d = true) : ∃ (n : Str) (f e : Int), d = .tup [.str n, .int f, .int e] ∧ nameB n = true ∧ 0 ≤ f ∧ f < e ∧ e ≤ 1000000 := by
  unfold isSpan at h
  split at h
  · rename_i a b c
    rw [Bool.and_eq_true, Bool.and_eq_true, Bool.and_eq_true] at h
    obtain ⟨h1, h2, h3, h4⟩ := h
    obtain ⟨n, rfl, hn⟩ := name_str h1
    obtain ⟨i, rfl, hi⟩ := within_int h2
    obtain ⟨j, rfl, hj⟩ := within_int h3
    exact ⟨n, i, j, rfl, hn, hi.1, of_decide_eq_true h4, hj.2⟩
  · cases h
theorem span_mk {n : Str} {f e : Int} (hn : nameB n = true) (h0 : 0 ≤ f) (h1 : f < e) (h2 : e ≤ 1000000) : isSpan (.tup [.str n, .int f, .int e]) = true := by
  simp [isSpan, isName, withinD, hn, h0, h1, h2]
  omega
theorem id_inv {d : D} (h : isId d = true) : ∃ (n : Str) (k : Int), d = .tup [.str n, .int k] ∧ nameB n = true ∧ 0 ≤ k ∧ k ≤ 999999 := by
  unfold isId at h
  split at h
  · rename_i a b
    rw [Bool.and_eq_true] at h
    obtain ⟨n, rfl, hn⟩ := name_str h.1
    obtain ⟨i, rfl, hi⟩ := within_int h.2
    exact ⟨n, i, rfl, hn, hi⟩
  · cases h
/-! ### pages -/
def spLen : D → Int
  | .tup [_, .int f, .int e] => e - f
  | _ => 0
def longD (l : List D) : Int := (l.map spLen).sum
theorem c_long_ok (l : List D) (G : List MO) (hl : l.length ≤ 16777215) (h : ∀ d ∈ l, isSpan d = true) : c_long_0 ⟨[.val (.tup l), .no, .no, .no], G⟩ = .ok (l.map fun d => .int (spLen d)) ⟨[.val (.tup l), .no, .no, .no], G⟩ := by
  refine comp_mapA (f := id) _ (s1 := ⟨[.val (.tup l), .no, .no, .no], G⟩) (by simp) (lenOk_of (by omega)) rfl fun d hd => ?_
  obtain ⟨n, f, e, rfl, _⟩ := span_inv (h d hd)
  exact ⟨⟨[.val (.tup l), .val (.str n), .val (.int f), .val (.int e)], G⟩, ⟨[.val (.tup l), .val (.str n), .val (.int f), .val (.int e)], G⟩, rfl, by simp [spLen], rfl, rfl⟩
theorem long_ok (l : List D) (G : List MO) (hl : l.length ≤ 16777215) (h : ∀ d ∈ l, isSpan d = true) : m_long [.tup l] G = .ok (.int (longD l)) G := by
  simp [m_long, b_long, c_long_ok l G hl h, asInts_ints, longD]
def goOn : D → D → Bool
  | .tup [.str n, _, .int e], .tup [.str n', .int f', _] => decide (n = n') && decide (e = f')
  | _, _ => false
theorem go_on_ok {d d' : D} (G : List MO) (h : isSpan d = true) (h' : isSpan d' = true) : m_go_on [d, d'] G = .ok (.bl (goOn d d')) G := by
  obtain ⟨n, f, e, rfl, _⟩ := span_inv h
  obtain ⟨n', f', e', rfl, _⟩ := span_inv h'
  simp [m_go_on, b_go_on, goOn]
  by_cases hn : n = n' <;> simp [hn]
def adj (p : D → D → Bool) (l : List D) : List Bool := (l.zip (l.drop 1)).map fun q => p q.1 q.2
theorem adj_mem {l : List D} {q : D × D} (h : q ∈ l.zip (l.drop 1)) : q.1 ∈ l ∧ q.2 ∈ l := by
  obtain ⟨a, b⟩ := q
  have := List.of_mem_zip h
  exact ⟨this.1, List.mem_of_mem_drop this.2⟩
def isPage : D → Bool
  | .tup l => decide (l.length ≤ 60) && (l.all isSpan && (decide (longD l ≤ 2000) && !(adj goOn l).any id))
  | _ => false
theorem c_is_page_1_ok (l : List D) (G : List MO) (hl : l.length ≤ 16777215) (h : gdL l = true) : c_is_page_1 ⟨[.val (.tup l), .no, .no, .no], G⟩ = .ok (l.map fun d => .bl (isSpan d)) ⟨[.val (.tup l), .no, .no, .no], G⟩ := by
  refine comp_mapA (f := id) _ (s1 := ⟨[.val (.tup l), .no, .no, .no], G⟩) (by simp) (lenOk_of (by omega)) rfl fun d hd => ?_
  have hg := gdL_all.mp h d hd
  exact ⟨⟨[.val (.tup l), .val d, .no, .no], G⟩, ⟨[.val (.tup l), .val d, .no, .no], G⟩, rfl, by simp [hg], rfl, rfl⟩
theorem c_is_page_0_ok (l : List D) (G : List MO) (hl : l.length ≤ 16777215) (h : ∀ d ∈ l, isSpan d = true) : c_is_page_0 ⟨[.val (.tup l), .no, .no, .no], G⟩ = .ok ((l.zip (l.drop 1)).map fun q => .bl (goOn q.1 q.2)) ⟨[.val (.tup l), .no, .no, .no], G⟩ := by
  refine comp_mapA (f := fun q : D × D => .tup [q.1, q.2]) _ (s1 := ⟨[.val (.tup l), .no, .no, .no], G⟩) (by simp [pairs_zip]) (lenOk_of (by rw [List.length_zip, List.length_drop]; omega)) rfl fun q hq => ?_
  obtain ⟨a, b⟩ := q
  obtain ⟨ha, hb⟩ := adj_mem hq
  obtain ⟨n, f, e, ea, _⟩ := span_inv (h a ha)
  obtain ⟨n', f', e', eb, _⟩ := span_inv (h b hb)
  have hgo := go_on_ok G (h a ha) (h b hb)
  exact ⟨⟨[.val (.tup l), .no, .val a, .val b], G⟩, ⟨[.val (.tup l), .no, .val a, .val b], G⟩, rfl, by simp [hgo, ea, eb]; simp [← ea, ← eb, hgo], rfl, rfl⟩
@[simp] theorem is_page_ok {d : D} (G : List MO) (h : gd d = true) : m_is_page [d] G = .ok (.bl (isPage d)) G := by
  cases d with
  | tup l =>
    have hg : gdL l = true := h
    by_cases h1 : l.length ≤ 60
    · have h2 : ¬ ((60 : Int) < l.length) := by omega
      have c1 := c_is_page_1_ok l G (by omega) hg
      cases h3 : l.all isSpan with
      | false =>
        have h3' : (l.map isSpan).all id = false := by rw [List.all_map]; exact h3
        simp [m_is_page, b_is_page, isPage, *, asBls_bls]
      | true =>
        have h4 := List.all_eq_true.mp h3
        have c0 := c_is_page_0_ok l G (by omega) h4
        have cl := long_ok l G (by omega) h4
        have h3' : (l.map isSpan).all id = true := by rw [List.all_map]; exact h3
        by_cases h5 : longD l ≤ 2000
        · simp [m_is_page, b_is_page, isPage, c1, c0, cl, h1, h2, h3, h3', h5, asBls_bls, adj]
        · simp [m_is_page, b_is_page, isPage, c1, c0, cl, h1, h2, h3, h3', h5, asBls_bls, adj]
    · have h2 : (60 : Int) < l.length := by omega
      simp [m_is_page, b_is_page, isPage, h1, h2]
  | _ => first | (simp [gd] at h; done) | simp [m_is_page, b_is_page, isPage]
end Pw
namespace Pw
open PySem PySem.Spec PyProof.Rows L2 Ms
theorem okN_gd : ∀ {n : Nat} {d : D}, okN n d = true → gd d = true
  | n, .non, _ => rfl
  | n, .bl b, _ => rfl
  | n, .int b, _ => rfl
  | n, .str x, h => by
    have e : okN n (.str x) = (lenOk x.length && PyData.strOk x) := by cases n <;> rfl
    rw [e, Bool.and_eq_true] at h
    exact h.1
  | n + 1, .tup l, h => by
    have h : l.all (okN n) = true := h
    rw [List.all_eq_true] at h
    exact gdL_all.mpr fun d hd => okN_gd (h d hd)
  | n + 1, .lst l, h => by
    have h : l.all (okN n) = true := h
    rw [List.all_eq_true] at h
    exact gdL_all.mpr fun d hd => okN_gd (h d hd)
  | 0, .tup l, h => by cases h
  | 0, .lst l, h => by cases h
  | n, .dct _ _ _, h => by cases n <;> cases h
  | n, .exc _ _ _, h => by cases n <;> cases h
  | n, .ref _, h => by cases n <;> cases h
  | n, .own _, h => by cases n <;> cases h
  | n, .scr _, h => by cases n <;> cases h
theorem gd_gdL {l : List D} (h : gd (.tup l) = true) : gdL l = true := h
/-! ### ends -/
def strLt (x y : Str) : Bool := PySem.W.dataLt (.str x) (.str y)
def apart : D → D → Bool
  | .tup [.str n, _, .int e], .tup [.str n', .int f', _] => strLt n n' || (decide (n = n') && decide (e < f'))
  | _, _ => false
theorem is_apart_ok {d d' : D} (G : List MO) (h : isSpan d = true) (h' : isSpan d' = true) : m_is_apart [d, d'] G = .ok (.bl (apart d d')) G := by
  obtain ⟨n, f, e, rfl, _⟩ := span_inv h
  obtain ⟨n', f', e', rfl, _⟩ := span_inv h'
  have lt : ∀ (s : Sta) (x y : Str), ltD s (.str x) (.str y) = some (.bl (strLt x y)) := ltD_str
  by_cases hn : n = n'
  · subst hn
    cases h1 : strLt n n <;> simp [m_is_apart, b_is_apart, apart, lt, h1]
  · cases h1 : strLt n n' <;> simp [m_is_apart, b_is_apart, apart, lt, h1, hn]
def isEnds : D → Bool
  | .tup l => decide (l.length ≤ 60) && (l.all isSpan && (adj apart l).all id)
  | _ => false
theorem c_is_ends_1_ok (l : List D) (G : List MO) (hl : l.length ≤ 16777215) (h : gdL l = true) : c_is_ends_1 ⟨[.val (.tup l), .no, .no, .no], G⟩ = .ok (l.map fun d => .bl (isSpan d)) ⟨[.val (.tup l), .no, .no, .no], G⟩ := by
  refine comp_mapA (f := id) _ (s1 := ⟨[.val (.tup l), .no, .no, .no], G⟩) (by simp) (lenOk_of (by omega)) rfl fun d hd => ?_
  have hg := gdL_all.mp h d hd
  exact ⟨⟨[.val (.tup l), .no, .no, .val d], G⟩, ⟨[.val (.tup l), .no, .no, .val d], G⟩, rfl, by simp [hg], rfl, rfl⟩
theorem c_is_ends_0_ok (l : List D) (G : List MO) (hl : l.length ≤ 16777215) (h : ∀ d ∈ l, isSpan d = true) : c_is_ends_0 ⟨[.val (.tup l), .no, .no, .no], G⟩ = .ok ((l.zip (l.drop 1)).map fun q => .bl (apart q.1 q.2)) ⟨[.val (.tup l), .no, .no, .no], G⟩ := by
  refine comp_mapA (f := fun q : D × D => .tup [q.1, q.2]) _ (s1 := ⟨[.val (.tup l), .no, .no, .no], G⟩) (by simp [pairs_zip]) (lenOk_of (by rw [List.length_zip, List.length_drop]; omega)) rfl fun q hq => ?_
  obtain ⟨a, b⟩ := q
  obtain ⟨ha, hb⟩ := adj_mem hq
  obtain ⟨n, f, e, ea, _⟩ := span_inv (h a ha)
  obtain ⟨n', f', e', eb, _⟩ := span_inv (h b hb)
  have hgo := is_apart_ok G (h a ha) (h b hb)
  exact ⟨⟨[.val (.tup l), .val a, .val b, .no], G⟩, ⟨[.val (.tup l), .val a, .val b, .no], G⟩, rfl, by simp [hgo, ea, eb]; simp [← ea, ← eb, hgo], rfl, rfl⟩
@[simp] theorem is_ends_ok {d : D} (G : List MO) (h : gd d = true) : m_is_ends [d] G = .ok (.bl (isEnds d)) G := by
  cases d with
  | tup l =>
    have hg : gdL l = true := h
    by_cases h1 : l.length ≤ 60
    · have h2 : ¬ ((60 : Int) < l.length) := by omega
      have c1 := c_is_ends_1_ok l G (by omega) hg
      cases h3 : l.all isSpan with
      | false =>
        have h3' : (l.map isSpan).all id = false := by rw [List.all_map]; exact h3
        simp [m_is_ends, b_is_ends, isEnds, *, asBls_bls]
      | true =>
        have h4 := List.all_eq_true.mp h3
        have c0 := c_is_ends_0_ok l G (by omega) h4
        have h3' : (l.map isSpan).all id = true := by rw [List.all_map]; exact h3
        simp [m_is_ends, b_is_ends, isEnds, c1, c0, h1, h2, h3, h3', asBls_bls, adj]
    · have h2 : (60 : Int) < l.length := by omega
      simp [m_is_ends, b_is_ends, isEnds, h1, h2]
  | _ => first | (simp [gd] at h; done) | simp [m_is_ends, b_is_ends, isEnds]
/-! ### texts -/
def signOk (c : Nat) : Bool := decide (32 ≤ c) && (decide (c ≤ 126) && decide (c ≠ 37))
theorem is_sign_ok (c : Nat) (G : List MO) : m_is_sign [.str ⟨#[c]⟩] G = .ok (.bl (signOk c)) G := by
  have e : gOrd (.str ⟨#[c]⟩) = some (.int (c : Nat)) := rfl
  by_cases h1 : 32 ≤ c
  · by_cases h2 : c ≤ 126
    · have h3 : (32 : Int) ≤ c := by omega
      have h4 : (c : Int) ≤ 126 := by omega
      by_cases h5 : c = 37
      · subst h5
        simp [m_is_sign, b_is_sign, e, signOk]
      · have h6 : ¬ (c : Int) = 37 := by omega
        simp [m_is_sign, b_is_sign, e, signOk, *]
    · have h4 : ¬ (c : Int) ≤ 126 := by omega
      have h3 : (32 : Int) ≤ c := by omega
      simp [m_is_sign, b_is_sign, e, signOk, *]
  · have h3 : ¬ (32 : Int) ≤ c := by omega
    simp [m_is_sign, b_is_sign, e, signOk, *]
def textB (x : Str) : Bool := decide (1 ≤ x.length) && (decide (x.length ≤ 200) && x.cps.toList.all signOk)
def isPoured : D → Bool
  | .str x => textB x
  | _ => false
theorem c_is_poured_ok (x : Str) (G : List MO) (h : x.length ≤ 16777215) : c_is_poured_0 ⟨[.val (.str x), .no], G⟩ = .ok (x.cps.toList.map fun c => .bl (signOk c)) ⟨[.val (.str x), .no], G⟩ := by
  refine comp_mapA (f := fun c => .str ⟨#[c]⟩) _ (s1 := ⟨[.val (.str x), .no], G⟩) (by simp [signs_map]) (lenOk_of (by rw [len_cps]; omega)) rfl fun c _ => ⟨⟨[.val (.str x), .val (.str ⟨#[c]⟩)], G⟩, ⟨[.val (.str x), .val (.str ⟨#[c]⟩)], G⟩, rfl, by simp [is_sign_ok], rfl, rfl⟩
@[simp] theorem is_poured_ok {d : D} (G : List MO) (h : gd d = true) : m_is_poured [d] G = .ok (.bl (isPoured d)) G := by
  cases d with
  | str x =>
    have hl : lenOk x.length = true := h
    have hl2 := lenOk_le hl
    by_cases h1 : 1 ≤ x.length
    · have h3 : (1 : Int) ≤ x.length := by omega
      by_cases h2 : x.length ≤ 200
      · have h4 : (x.length : Int) ≤ 200 := by omega
        have e : (x.cps.toList.map signOk).all id = x.cps.toList.all signOk := by rw [List.all_map]; rfl
        simp [m_is_poured, b_is_poured, isPoured, textB, hl, h1, h2, h3, h4, c_is_poured_ok x G (by omega), asBls_bls, -Array.all_toList, -List.all_map, e]
      · have h4 : ¬ (x.length : Int) ≤ 200 := by omega
        simp [m_is_poured, b_is_poured, isPoured, textB, hl, h1, h2, h3, h4]
    · have h3 : ¬ (1 : Int) ≤ x.length := by omega
      simp [m_is_poured, b_is_poured, isPoured, textB, hl, h1, h3]
  | _ => first | (simp [gd] at h; done) | simp [m_is_poured, b_is_poured, isPoured]
/-! ### records -/
def idLt : D → D → Bool
  | .tup [.str n, .int k], .tup [.str n', .int k'] => PySem.W.dataLt (.tuple [.str n, .int k]) (.tuple [.str n', .int k'])
  | _, _ => false
theorem idLt_ok {d d' : D} (s : Sta) (h : isId d = true) (h' : isId d' = true) : ltD s d d' = some (.bl (idLt d d')) := by
  obtain ⟨n, k, rfl, _⟩ := id_inv h
  obtain ⟨n', k', rfl, _⟩ := id_inv h'
  exact ltD_tup s (p := [.str n, .int k]) (q := [.str n', .int k']) rfl rfl (by simp [PySem.W.alike, PySem.W.alikeAll]) (by simp [PyData.depth, PyData.depthAll])
def areParents : D → Bool
  | .tup l => decide (l.length ≤ 2) && (l.all isId && (adj idLt l).all id)
  | _ => false
theorem c_are_parents_1_ok (l : List D) (G : List MO) (hl : l.length ≤ 16777215) (h : gdL l = true) : c_are_parents_1 ⟨[.val (.tup l), .no, .no], G⟩ = .ok (l.map fun d => .bl (isId d)) ⟨[.val (.tup l), .no, .no], G⟩ := by
  refine comp_mapA (f := id) _ (s1 := ⟨[.val (.tup l), .no, .no], G⟩) (by simp) (lenOk_of (by omega)) rfl fun d hd => ?_
  have hg := gdL_all.mp h d hd
  exact ⟨⟨[.val (.tup l), .val d, .no], G⟩, ⟨[.val (.tup l), .val d, .no], G⟩, rfl, by simp [hg], rfl, rfl⟩
theorem c_are_parents_0_ok (l : List D) (G : List MO) (hl : l.length ≤ 16777215) (h : ∀ d ∈ l, isId d = true) : c_are_parents_0 ⟨[.val (.tup l), .no, .no], G⟩ = .ok ((l.zip (l.drop 1)).map fun q => .bl (idLt q.1 q.2)) ⟨[.val (.tup l), .no, .no], G⟩ := by
  refine comp_mapA (f := fun q : D × D => .tup [q.1, q.2]) _ (s1 := ⟨[.val (.tup l), .no, .no], G⟩) (by simp [pairs_zip]) (lenOk_of (by rw [List.length_zip, List.length_drop]; omega)) rfl fun q hq => ?_
  obtain ⟨a, b⟩ := q
  obtain ⟨ha, hb⟩ := adj_mem hq
  exact ⟨⟨[.val (.tup l), .val a, .val b], G⟩, ⟨[.val (.tup l), .val a, .val b], G⟩, rfl, by simp [idLt_ok _ (h a ha) (h b hb)], rfl, rfl⟩
@[simp] theorem are_parents_ok {d : D} (G : List MO) (h : gd d = true) : m_are_parents [d] G = .ok (.bl (areParents d)) G := by
  cases d with
  | tup l =>
    have hg : gdL l = true := h
    by_cases h1 : l.length ≤ 2
    · have h2 : ¬ ((2 : Int) < l.length) := by omega
      have c1 := c_are_parents_1_ok l G (by omega) hg
      cases h3 : l.all isId with
      | false =>
        have h3' : (l.map isId).all id = false := by rw [List.all_map]; exact h3
        simp [m_are_parents, b_are_parents, areParents, *, asBls_bls]
      | true =>
        have h4 := List.all_eq_true.mp h3
        have c0 := c_are_parents_0_ok l G (by omega) h4
        have h3' : (l.map isId).all id = true := by rw [List.all_map]; exact h3
        simp [m_are_parents, b_are_parents, areParents, c1, c0, h1, h2, h3, h3', asBls_bls, adj]
    · have h2 : (2 : Int) < l.length := by omega
      simp [m_are_parents, b_are_parents, areParents, h1, h2]
  | _ => first | (simp [gd] at h; done) | simp [m_are_parents, b_are_parents, areParents]
def isPour (l : List D) : Bool := match l with
  | [_, a, b, c] => isName a && (withinD b 0 999999 && (isPoured c && match b, c with
    | .int i, .str x => decide (i + x.length ≤ 1000000)
    | _, _ => false))
  | _ => false
theorem len4 {α : Type} : ∀ (l : List α), l.length = 4 → ∃ a b c d, l = [a, b, c, d]
  | [a, b, c, d], _ => ⟨a, b, c, d, rfl⟩
theorem len6 {α : Type} : ∀ (l : List α), l.length = 6 → ∃ a b c d e f, l = [a, b, c, d, e, f]
  | [a, b, c, d, e, f], _ => ⟨a, b, c, d, e, f, rfl⟩
theorem poured_str {d : D} (h : isPoured d = true) : ∃ x, d = .str x ∧ textB x = true := by
  cases d <;> simp [isPoured] at h
  exact ⟨_, rfl, h⟩
theorem is_pour_ok {l : List D} (G : List MO) (h : gdL l = true) : m_is_pour [.tup l] G = .ok (.bl (isPour l)) G := by
  by_cases hl : l.length = 4
  · obtain ⟨a, b, c, d, rfl⟩ := len4 l hl
    simp [gdL] at h
    obtain ⟨ha, hb, hc, hd⟩ := h
    cases hn : isName b with
    | false => simp [m_is_pour, b_is_pour, isPour, *]
    | true =>
      cases h1 : withinD c 0 999999 with
      | false => simp [m_is_pour, b_is_pour, isPour, *]
      | true =>
        cases h2 : isPoured d with
        | false => simp [m_is_pour, b_is_pour, isPour, *]
        | true =>
          obtain ⟨i, rfl, _⟩ := within_int h1
          obtain ⟨x, rfl, _⟩ := poured_str h2
          have hx : lenOk x.length = true := hd
          simp [m_is_pour, b_is_pour, isPour, *]
  · have h2 : ¬ (l.length : Int) = 4 := by omega
    have h3 : isPour l = false := by
      unfold isPour
      split
      · exact absurd rfl hl
      · rfl
    simp [m_is_pour, b_is_pour, h2, h3]
def isVersion (l : List D) : Bool := match l with
  | [_, a, b, c, d, e] => isName a && (isId (.tup [b, c]) && (areParents d && isPage e))
  | _ => false
@[simp] theorem cut6_24 (a b c d e f : D) : cutD [a, b, c, d, e, f] (some 2) (some 4) = [c, d] := rfl
@[simp] theorem cut6_13 (a b c d e f : D) : cutD [a, b, c, d, e, f] (some 1) (some 3) = [b, c] := rfl
theorem is_version_ok {l : List D} (G : List MO) (h : gdL l = true) : m_is_version [.tup l] G = .ok (.bl (isVersion l)) G := by
  by_cases hl : l.length = 6
  · obtain ⟨a, b, c, d, e, f, rfl⟩ := len6 l hl
    simp [gdL] at h
    obtain ⟨ha, hb, hc, hd, he, hf⟩ := h
    have hcd : gd (.tup [c, d]) = true := by simp [gd, gdL, hc, hd]
    cases hn : isName b with
    | false => simp [m_is_version, b_is_version, isVersion, *]
    | true =>
      cases h1 : isId (.tup [c, d]) with
      | false => simp [m_is_version, b_is_version, isVersion, *]
      | true => cases h2 : areParents e <;> simp [m_is_version, b_is_version, isVersion, *]
  · have h2 : ¬ (l.length : Int) = 6 := by omega
    have h3 : isVersion l = false := by
      unfold isVersion
      split
      · exact absurd rfl hl
      · rfl
    simp [m_is_version, b_is_version, h2, h3]
def endsB (d : D) : Bool := isEnds d && (match d with
  | .tup l => !l.isEmpty
  | _ => true)
def isLink (l : List D) : Bool := match l with
  | [_, a, b, c, d, e] => isId (.tup [a, b]) && (isName c && (endsB d && endsB e))
  | _ => false
theorem ends_tup {d : D} (h : isEnds d = true) : ∃ l, d = .tup l := by
  cases d <;> simp [isEnds] at h
  exact ⟨_, rfl⟩
theorem c_is_link_ok {n : Nat} (a b c d e f : D) (G : List MO) (hn : n ≤ 64) (he : okN n e = true) (hf : okN n f = true) : c_is_link_0 ⟨[.val (.tup [a, b, c, d, e, f]), .no], G⟩ = .ok ([e, f].map fun d => .bl (endsB d)) ⟨[.val (.tup [a, b, c, d, e, f]), .no], G⟩ := by
  refine comp_mapA (f := id) (xs := [e, f]) _ (s1 := ⟨[.val (.tup [a, b, c, d, e, f]), .no], G⟩) (by simp) rfl rfl fun x hx => ?_
  have ho : okN n x = true := by
    rcases List.mem_cons.mp hx with h | h
    · rw [h]; exact he
    · rw [List.mem_singleton.mp h]; exact hf
  have hg := okN_gd ho
  refine ⟨⟨[.val (.tup [a, b, c, d, e, f]), .val x], G⟩, ⟨[.val (.tup [a, b, c, d, e, f]), .val x], G⟩, rfl, ?_, rfl, rfl⟩
  cases h1 : isEnds x with
  | false => simp [hg, h1, endsB]
  | true =>
    obtain ⟨l, rfl⟩ := ends_tup h1
    simp [hg, h1, endsB, lenOk, eqD_tup0 _ ho hn]
theorem is_link_ok {n : Nat} {l : List D} (G : List MO) (hn : n ≤ 64) (h : ∀ d ∈ l, okN n d = true) : m_is_link [.tup l] G = .ok (.bl (isLink l)) G := by
  by_cases hl : l.length = 6
  · obtain ⟨a, b, c, d, e, f, rfl⟩ := len6 l hl
    have cl := c_is_link_ok a b c d e f G hn (h e (by simp)) (h f (by simp))
    have hb := okN_gd (h b (by simp))
    have hc := okN_gd (h c (by simp))
    have hd := okN_gd (h d (by simp))
    have hbc : gd (.tup [b, c]) = true := by simp [gd, gdL, hb, hc]
    clear h
    cases h1 : isId (.tup [b, c]) with
    | false => simp [m_is_link, b_is_link, isLink, *]
    | true => cases h2 : isName d <;> simp [m_is_link, b_is_link, isLink, asBls, *]
  · have h2 : ¬ (l.length : Int) = 6 := by omega
    have h3 : isLink l = false := by
      unfold isLink
      split
      · exact absurd rfl hl
      · rfl
    simp [m_is_link, b_is_link, h2, h3]
def idL (l : List D) : Bool := match l with
  | [a, b] => isId (.tup [a, b])
  | _ => false
theorem idL_ne {l : List D} (h : l.length ≠ 2) : idL l = false := by
  unfold idL
  split
  · exact absurd rfl h
  · rfl
def isRecord : D → Bool
  | .tup (.str w :: l) => if w = "pour" then isPour (.str w :: l) else if w = "page" then isVersion (.str w :: l) else if w = "link" then isLink (.str w :: l) else
    decide (w = "off") && idL l
  | _ => false
theorem w_1 : ¬ (Str.ofString "page" = Str.ofString "pour") := by decide +kernel
theorem w_2 : ¬ (Str.ofString "link" = Str.ofString "pour") := by decide +kernel
theorem w_3 : ¬ (Str.ofString "link" = Str.ofString "page") := by decide +kernel
theorem w_4 : ¬ (Str.ofString "off" = Str.ofString "pour") := by decide +kernel
theorem w_5 : ¬ (Str.ofString "off" = Str.ofString "page") := by decide +kernel
theorem w_6 : ¬ (Str.ofString "off" = Str.ofString "link") := by decide +kernel
theorem is_record_ok {n : Nat} {d : D} (G : List MO) (hn : n ≤ 64) (h : okN n d = true) : m_is_record [d] G = .ok (.bl (isRecord d)) G := by
  cases d with
  | tup l =>
    cases n with
    | zero => cases h
    | succ n =>
      have hall : l.all (okN n) = true := h
      rw [List.all_eq_true] at hall
      have hgd : gdL l = true := okN_gd h
      have e0 := fun s => eqD_tup0 s h hn
      cases l with
      | nil => simp [m_is_record, b_is_record, isRecord, lenOk, e0]
      | cons w l =>
        have hw := okN_gd (hall w (by simp))
        have hgt : gd (.tup (w :: l)) = true := hgd
        cases w with
        | str w =>
          have ip := is_pour_ok (l := .str w :: l) G hgd
          have iv := is_version_ok (l := .str w :: l) G hgd
          have il := is_link_ok (l := .str w :: l) G (by omega) hall
          by_cases h1 : w = "pour"
          · subst h1
            simp [m_is_record, b_is_record, isRecord, lenOk, e0, hgt, ip]
          · by_cases h2 : w = "page"
            · subst h2
              simp [m_is_record, b_is_record, isRecord, lenOk, e0, hgt, iv, w_1]
            · by_cases h3 : w = "link"
              · subst h3
                simp [m_is_record, b_is_record, isRecord, lenOk, e0, hgt, il, w_2, w_3]
              · by_cases h4 : w = "off"
                · subst h4
                  by_cases h5 : l.length = 2
                  · obtain ⟨a, b, rfl⟩ := len2 l h5
                    have ha := okN_gd (hall a (by simp))
                    have hb := okN_gd (hall b (by simp))
                    have hab : gd (.tup [a, b]) = true := by simp [gd, gdL, ha, hb]
                    simp [m_is_record, b_is_record, isRecord, lenOk, e0, hab, w_4, w_5, w_6, idL]
                  · have h6 : ¬ (l.length : Int) + 1 = 3 := by omega
                    simp [m_is_record, b_is_record, isRecord, lenOk, e0, w_4, w_5, w_6, h6, idL_ne h5]
                · simp [m_is_record, b_is_record, isRecord, lenOk, e0, h1, h2, h3, h4]
        | _ => first | (simp [gd] at hw; done) | simp [m_is_record, b_is_record, isRecord, lenOk, e0]
  | _ => first | (cases n <;> cases h; done) | simp [m_is_record, b_is_record, isRecord]
end Pw
namespace Pw
open PySem PySem.Spec PyProof.Rows L2 Ms SX
theorem s_col : Str.ofString ":" = S [58] := by decide +kernel
theorem s_min : Str.ofString "-" = S [45] := by decide +kernel
theorem s_com : Str.ofString "," = S [44] := by decide +kernel
theorem s_dot : Str.ofString "." = S [46] := by decide +kernel
theorem s_plu : Str.ofString "+" = S [43] := by decide +kernel
theorem s_bla : Str.ofString " " = S [32] := by decide +kernel
theorem s_row : Str.ofString "\n" = S [10] := by decide +kernel
theorem s_zer : Str.ofString "0" = S [48] := by decide +kernel
theorem s_nul : Str.ofString "" = S [] := by decide +kernel
theorem c_number_of_ok (x : Str) (G : List MO) (h : x.length ≤ 16777215) : c_number_of_0 ⟨[.val (.str x), .no], G⟩ = .ok (x.cps.toList.map fun c => .bl (figC c)) ⟨[.val (.str x), .no], G⟩ := by
  refine comp_mapA (f := fun c => .str ⟨#[c]⟩) _ (s1 := ⟨[.val (.str x), .no], G⟩) (by simp [signs_map]) (lenOk_of (by rw [len_cps]; omega)) rfl fun c _ => ⟨⟨[.val (.str x), .val (.str ⟨#[c]⟩)], G⟩, ⟨[.val (.str x), .val (.str ⟨#[c]⟩)], G⟩, rfl, ?_, rfl, rfl⟩
  have := figs_ok c
  simp [-Array.mem_toList_iff, this]
theorem number_of_ok {a : List Nat} (G : List MO) (h : a.length ≤ 16777000) : m_number_of [.str (S a)] G = .ok (optI (numL a)) G := by
  have hl : lenOk (S a).length = true := by rw [S_len]; exact lenOk_of (by omega)
  have hln : ((S a).length : Int) = a.length := by rw [S_len]
  by_cases h1 : 1 ≤ a.length
  · have h1' : (1 : Int) ≤ a.length := by omega
    by_cases h2 : a.length ≤ 7
    · have h2' : (a.length : Int) ≤ 7 := by omega
      have cc := c_number_of_ok (S a) G (by rw [S_len]; omega)
      cases h3 : a.all figC with
      | false =>
        have en : numL a = none := by unfold numL; rw [if_neg (by simp [h3])]
        simp [m_number_of, b_number_of, hl, h1, h1', h2', hln, cc, asBls_bls, h3, en, optI]
      | true =>
        obtain ⟨x, hx⟩ : ∃ x, a[0]? = some x := ⟨a[0], List.getElem?_eq_getElem (by omega)⟩
        have hx2 : a.head? = some x := by rw [List.head?_eq_getElem?]; exact hx
        have ex : ((⟨#[x]⟩ : Str) = Str.ofString "0") ↔ x = 48 := by
          rw [s_zer]
          constructor
          · intro q
            have := S_inj (a := [x]) (b := [48]) q
            simpa using this
          · intro q; rw [q]
        have ea : (S a = Str.ofString "0") ↔ a = [48] := by
          rw [s_zer]
          exact ⟨fun q => S_inj q, fun q => by rw [q]⟩
        have hi : PySem.intText? (S a) = some ((NumText.digitsVal a : Nat) : Int) := int_S (by rw [List.all_eq_true] at h3 ⊢; exact fun c hc => h3 c hc) (by intro z; rw [z] at h1; simp at h1) (by omega)
        have hlen : (S a).length ≤ 640 := by rw [S_len]; omega
        have hcond : (decide (1 ≤ a.length) && (decide (a.length ≤ 7) && a.all figC)) = true := by rw [h3, decide_eq_true h1, decide_eq_true h2]; rfl
        by_cases h4 : x = 48
        · by_cases h5 : a = [48]
          · subst h5
            kernel_rfl
          · have en : numL a = none := by unfold numL; rw [if_pos hcond, if_pos ⟨by rw [hx2, h4], h5⟩]
            have ex1 := ex.mpr h4
            have ea1 : ¬ (S a = Str.ofString "0") := fun q => h5 (ea.mp q)
            simp [m_number_of, b_number_of, hl, h1', h2', hln, cc, asBls_bls, h3, en, optI, hx, ex1, ea1]
        · have en : numL a = some (NumText.digitsVal a) := by unfold numL; rw [if_pos hcond, if_neg (fun q => h4 (by rw [hx2] at q; exact Option.some.inj q.1))]
          simp [m_number_of, b_number_of, hl, h1', h2', hln, cc, asBls_bls, h3, en, optI, hx, ex, ea, h4, gIntS, hi, hlen]
    · have h2' : ¬ (a.length : Int) ≤ 7 := by omega
      have en : numL a = none := by unfold numL; rw [if_neg (by simp [h2])]
      simp [m_number_of, b_number_of, hl, h1, h1', h2', hln, en, optI]
  · have h1' : ¬ (1 : Int) ≤ a.length := by omega
    have en : numL a = none := by unfold numL; rw [if_neg (by simp [h1])]
    simp [m_number_of, b_number_of, hl, h1, h1', hln, en, optI]
end Pw
namespace Pw
open PySem PySem.Spec PyProof.Rows L2 Ms SX
def hdL (ps : List (List Nat)) : List Nat := ps.headD []
def tlL (ps : List (List Nat)) : List (List Nat) := ps.tail
theorem spc_eq (c : Nat) (a : List Nat) : spc c a = hdL (spc c a) :: tlL (spc c a) := by
  cases e : spc c a with
  | nil => exact absurd e (spc_ne c a)
  | cons h t => rfl
theorem tl_wgt (c : Nat) (a : List Nat) : wgt (tlL (spc c a)) ≤ a.length := by
  have h := spc_wgt c a
  rw [spc_eq, wgt_cons] at h
  omega
theorem tl_len (c : Nat) (a : List Nat) : (tlL (spc c a)).length ≤ a.length := Nat.le_trans (wgt_len _) (tl_wgt c a)
theorem hd_len (c : Nat) (a : List Nat) : (hdL (spc c a)).length ≤ a.length := spc_len (c := c) (by rw [spc_eq]; exact List.mem_cons_self)
theorem split_ok {c : Nat} (hc : c < 256) {a : List Nat} (h : a.length ≤ 16777000) : splitD (.str (S a)) (.str (S [c])) = some (.lst (.str (S (hdL (spc c a))) :: (tlL (spc c a)).map fun p => .str (S p))) := by
  rw [splitD_spc hc h]
  conv => lhs; rw [spc_eq]
  rfl
theorem lenS (a : List Nat) (h : a.length ≤ 16777216) : lenOk (S a).length = true := by rw [S_len]; exact lenOk_of h
/-! ### ids -/
def idOf (a : List Nat) : D := .tup [.str (S (hdL (spc 46 a))), optI (numL (joi 46 (tlL (spc 46 a))))]
theorem isOwn_optI (o : Option Nat) : (optI o).isOwn = false := by cases o <;> rfl
@[simp] theorem outK_optI {β : Type} (k : D → Sta → Out β) (o : Option Nat) (s : Sta) : outK k (optI o) s = k (optI o) s := outK_no (isOwn_optI o)
theorem id_of_ok {a : List Nat} (G : List MO) (h : a.length ≤ 15000) : m_id_of [.str (S a)] G = .ok (idOf a) G := by
  have h1 := tl_len 46 a
  have h2 := tl_wgt 46 a
  have h3 := joi_len 46 (tlL (spc 46 a))
  have e1 := split_ok (c := 46) (by omega) (a := a) (by omega)
  have e2 := fun s => joinD_joi s 46 (tlL (spc 46 a)) (by omega)
  have e3 := number_of_ok (a := joi 46 (tlL (spc 46 a))) G (by omega)
  have h4 : (tlL (spc 46 a)).length ≤ 16000 := by omega
  simp [m_id_of, b_id_of, s_dot, e1, e2, e3, h4, lenOk, idOf]
def idsOf (a : List Nat) : D := if a = [45] then .tup [] else .tup ((spc 43 a).map idOf)
theorem eqS (a b : List Nat) : decide (S a = S b) = decide (a = b) := by
  by_cases h : a = b
  · rw [h]; simp
  · rw [decide_eq_false h, decide_eq_false (fun q => h (S_inj q))]
theorem spc_cnt (c : Nat) (a : List Nat) : (spc c a).length ≤ a.length + 1 := by
  have := wgt_len (spc c a)
  rw [spc_wgt] at this
  exact this
theorem c_ids_of_ok {a : List Nat} (G : List MO) (h : a.length ≤ 15000) : c_ids_of_0 ⟨[.val (.str (S a)), .no], G⟩ = .ok ((spc 43 a).map idOf) ⟨[.val (.str (S a)), .no], G⟩ := by
  have e1 := splitD_spc (c := 43) (by omega) (a := a) (by omega)
  refine comp_mapA (f := fun p => .str (S p)) _ (s1 := ⟨[.val (.str (S a)), .no], G⟩) (by simp [s_plu, e1]) (lenOk_of (by have := spc_cnt 43 a; omega)) rfl fun p hp => ⟨⟨[.val (.str (S a)), .val (.str (S p))], G⟩, ⟨[.val (.str (S a)), .val (.str (S p))], G⟩, rfl, ?_, rfl, rfl⟩
  have := spc_len hp
  simp [id_of_ok G (show p.length ≤ 15000 by omega)]
theorem ids_of_ok {a : List Nat} (G : List MO) (h : a.length ≤ 15000) : m_ids_of [.str (S a)] G = .ok (idsOf a) G := by
  have cc := c_ids_of_ok G h
  have he := eqS a [45]
  by_cases h1 : a = [45]
  · subst h1
    simp [m_ids_of, b_ids_of, s_min, idsOf, lenOk]
  · have h2 : ¬ (S a = S [45]) := fun q => h1 (S_inj q)
    simp [m_ids_of, b_ids_of, s_min, h1, h2, cc, idsOf]
/-! ### spans -/
def spanRaw (a : List Nat) : D := .tup (.str (S (hdL (spc 58 a))) :: (spc 45 (joi 58 (tlL (spc 58 a)))).map fun p => optI (numL p))
def spanOf (a : List Nat) : D := if isSpan (spanRaw a) = true then spanRaw a else .non
theorem c_span_of_ok {a : List Nat} (G : List MO) (h : a.length ≤ 15000) : c_span_of_0 ⟨[.val (.str (S a)), .no, .no, .val (.str (S (hdL (spc 58 a)))), .val (.lst ((tlL (spc 58 a)).map fun p => .str (S p))), .no], G⟩ =
    .ok ((spc 45 (joi 58 (tlL (spc 58 a)))).map fun p => optI (numL p)) ⟨[.val (.str (S a)), .no, .no, .val (.str (S (hdL (spc 58 a)))), .val (.lst ((tlL (spc 58 a)).map fun p => .str (S p))), .no], G⟩ := by
  have h2 := tl_wgt 58 a
  have h3 := joi_len 58 (tlL (spc 58 a))
  have e2 := fun s => joinD_joi s 58 (tlL (spc 58 a)) (by omega)
  have e1 := splitD_spc (c := 45) (by omega) (a := joi 58 (tlL (spc 58 a))) (by omega)
  refine comp_mapA (f := fun p => .str (S p)) _ (s1 := ⟨[.val (.str (S a)), .no, .no, .val (.str (S (hdL (spc 58 a)))), .val (.lst ((tlL (spc 58 a)).map fun p => .str (S p))), .no], G⟩) (by simp [s_col, s_min, e1, e2]) (lenOk_of (by have := spc_cnt 45 (joi 58 (tlL (spc 58 a))); omega)) rfl fun p hp =>
    ⟨⟨[.val (.str (S a)), .no, .no, .val (.str (S (hdL (spc 58 a)))), .val (.lst ((tlL (spc 58 a)).map fun p => .str (S p))), .val (.str (S p))], G⟩, ⟨[.val (.str (S a)), .no, .no, .val (.str (S (hdL (spc 58 a)))), .val (.lst ((tlL (spc 58 a)).map fun p => .str (S p))), .val (.str (S p))], G⟩, rfl, ?_, isOwn_optI _, rfl⟩
  have := spc_len hp
  simp [number_of_ok G (show p.length ≤ 16777000 by omega)]
theorem gd_optI (o : Option Nat) : gd (optI o) = true := by cases o <;> rfl
theorem gd_S {a : List Nat} (h : a.length ≤ 16777216) : gd (.str (S a)) = true := lenS a h
theorem span_of_ok {a : List Nat} (G : List MO) (h : a.length ≤ 15000) : m_span_of [.str (S a)] G = .ok (spanOf a) G := by
  have h1 := tl_len 58 a
  have h2 := tl_wgt 58 a
  have h3 := joi_len 58 (tlL (spc 58 a))
  have e1 := split_ok (c := 58) (by omega) (a := a) (by omega)
  have cc := c_span_of_ok G h
  have h4 : (tlL (spc 58 a)).length ≤ 16000 := by omega
  have h5 := spc_cnt 45 (joi 58 (tlL (spc 58 a)))
  have h6 : lenOk (1 + (spc 45 (joi 58 (tlL (spc 58 a)))).length) = true := lenOk_of (by omega)
  have hg : gd (spanRaw a) = true := by
    show gdL _ = true
    refine gdL_all.mpr fun d hd => ?_
    rcases List.mem_cons.mp hd with hd | hd
    · rw [hd]; exact gd_S (by have := hd_len 58 a; omega)
    · obtain ⟨p, _, rfl⟩ := List.mem_map.mp hd
      exact gd_optI _
  have hs := is_span_ok (d := spanRaw a) G hg
  unfold spanRaw at hs hg
  unfold spanOf spanRaw
  cases hb : isSpan (.tup (.str (S (hdL (spc 58 a))) :: (spc 45 (joi 58 (tlL (spc 58 a)))).map fun p => optI (numL p))) <;> rw [hb] at hs <;> simp [m_span_of, b_span_of, s_col, e1, cc, h4, show lenOk 1 = true from rfl, h6, hs]
end Pw
namespace Pw
open PySem PySem.Spec PyProof.Rows L2 Ms SX
def cpOk (a : List Nat) : Prop := ∀ c ∈ a, c < 0x110000
theorem cpOk_spc {c : Nat} {a p : List Nat} (h : cpOk a) (hp : p ∈ spc c a) : cpOk p := fun x hx => h x (spc_mem hp hx)
theorem hd_mem (c : Nat) (a : List Nat) : hdL (spc c a) ∈ spc c a := by
  have h : hdL (spc c a) ∈ hdL (spc c a) :: tlL (spc c a) := List.mem_cons_self
  rwa [← spc_eq] at h
theorem tl_mem {c : Nat} {a p : List Nat} (hp : p ∈ tlL (spc c a)) : p ∈ spc c a := by
  have h : p ∈ hdL (spc c a) :: tlL (spc c a) := List.mem_cons_of_mem _ hp
  rwa [← spc_eq] at h
theorem cpOk_hd {c : Nat} {a : List Nat} (h : cpOk a) : cpOk (hdL (spc c a)) := cpOk_spc h (hd_mem c a)
theorem cpOk_tl {c : Nat} {a p : List Nat} (h : cpOk a) (hp : p ∈ tlL (spc c a)) : cpOk p := cpOk_spc h (tl_mem hp)
theorem cpOk_joi {c : Nat} {ps : List (List Nat)} (hc : c < 0x110000) (h : ∀ p ∈ ps, cpOk p) : cpOk (joi c ps) := fun x hx => by
  rcases joi_mem hx with q | ⟨p, hp, q⟩
  · rw [q]; exact hc
  · exact h p hp x q
theorem tl_mem_len {c : Nat} {a p : List Nat} (hp : p ∈ tlL (spc c a)) : p.length ≤ a.length := spc_len (tl_mem hp)
theorem okN_tup {n : Nat} {l : List D} (h : ∀ d ∈ l, okN n d = true) : okN (n + 1) (.tup l) = true := List.all_eq_true.mpr h
theorem okN_lst {n : Nat} {l : List D} (h : ∀ d ∈ l, okN n d = true) : okN (n + 1) (.lst l) = true := List.all_eq_true.mpr h
theorem okN_spanRaw {a : List Nat} (h : cpOk a) (hl : a.length ≤ 15000) : okN 1 (spanRaw a) = true := by
  refine okN_tup fun d hd => ?_
  rcases List.mem_cons.mp hd with hd | hd
  · rw [hd]; exact okN_S (cpOk_hd h) (by have := hd_len 58 a; omega)
  · obtain ⟨p, _, rfl⟩ := List.mem_map.mp hd
    exact okN_optI _
theorem okN_non (n : Nat) : okN n .non = true := by cases n <;> rfl
theorem okN_spanOf {a : List Nat} (h : cpOk a) (hl : a.length ≤ 15000) : okN 1 (spanOf a) = true := by
  unfold spanOf
  split
  · exact okN_spanRaw h hl
  · rfl
theorem okN_idOf {a : List Nat} (h : cpOk a) (hl : a.length ≤ 15000) : okN 1 (idOf a) = true := by
  refine okN_tup fun d hd => ?_
  rcases List.mem_cons.mp hd with hd | hd
  · rw [hd]; exact okN_S (cpOk_hd h) (by have := hd_len 46 a; omega)
  · rw [List.mem_singleton.mp hd]; exact okN_optI _
theorem okN_idsOf {a : List Nat} (h : cpOk a) (hl : a.length ≤ 15000) : okN 2 (idsOf a) = true := by
  unfold idsOf
  split
  · rfl
  · refine okN_tup fun d hd => ?_
    obtain ⟨p, hp, rfl⟩ := List.mem_map.mp hd
    exact okN_idOf (cpOk_spc h hp) (by have := spc_len hp; omega)
theorem inD_non {n : Nat} {l : List D} (s : Sta) (h : okN (n + 1) (.lst l) = true) (hn : n + 1 ≤ 64) : inD s .non (.lst l) = some (l.any D.isNon) := by
  obtain ⟨p, e1, e2, e3⟩ := okN_py h
  have e1' := e1
  simp [D.py] at e1'
  obtain ⟨ps, f1, rfl⟩ := e1'
  have hs : (SeqAt.shaped .none && SeqAt.shaped (.list ps)) = true := by rw [shaped_of e2 e3 hn]; rfl
  have key : ∀ (l : List D) (ps : List PyData), pyL l = some ps → (ps.any fun z => PyData.eqv z .none) = l.any D.isNon := fun l => by
    induction l with
    | nil => intro ps h; cases h; rfl
    | cons d ds ih =>
      intro ps h
      rw [pyL] at h
      split at h
      · rename_i p1 ps1 g1 g2
        cases h
        rw [List.any_cons, List.any_cons, ih ps1 g2]
        congr 1
        cases d <;> simp [D.py] at g1
        · subst g1; rfl
        · subst g1; rfl
        · subst g1; rfl
        · subst g1; rfl
        · obtain ⟨q, _, rfl⟩ := g1; rfl
        · obtain ⟨q, _, rfl⟩ := g1; rfl
      · cases h
  show (match (.non : D).pyS s, (D.lst l).pyS s with | some d, some (.list ds) => if SeqAt.shaped d && SeqAt.shaped (.list ds) then some (ds.any fun z => PyData.eqv z d) else none | _, _ => none) = _
  rw [pyS_py s e1, show (D.non).pyS s = some .none from rfl]
  simp only [hs, if_true, key l ps f1]
def spansOf (a : List Nat) : D := if a = [45] then .tup [] else if ((spc 44 a).map spanOf).any D.isNon = true then .non else .tup ((spc 44 a).map spanOf)
theorem okN_spansOf {a : List Nat} (h : cpOk a) (hl : a.length ≤ 15000) : okN 2 (spansOf a) = true := by
  unfold spansOf
  split
  · rfl
  · split
    · rfl
    · refine okN_tup fun d hd => ?_
      obtain ⟨p, hp, rfl⟩ := List.mem_map.mp hd
      exact okN_spanOf (cpOk_spc h hp) (by have := spc_len hp; omega)
theorem isOwn_spanOf (a : List Nat) : (spanOf a).isOwn = false := by
  unfold spanOf
  split <;> rfl
theorem c_spans_of_ok {a : List Nat} (G : List MO) (h : a.length ≤ 15000) : c_spans_of_0 ⟨[.val (.str (S a)), .no, .no], G⟩ = .ok ((spc 44 a).map spanOf) ⟨[.val (.str (S a)), .no, .no], G⟩ := by
  have e1 := splitD_spc (c := 44) (by omega) (a := a) (by omega)
  refine comp_mapA (f := fun p => .str (S p)) _ (s1 := ⟨[.val (.str (S a)), .no, .no], G⟩) (by simp [s_com, e1]) (lenOk_of (by have := spc_cnt 44 a; omega)) rfl fun p hp => ⟨⟨[.val (.str (S a)), .no, .val (.str (S p))], G⟩, ⟨[.val (.str (S a)), .no, .val (.str (S p))], G⟩, rfl, ?_, isOwn_spanOf p, rfl⟩
  have := spc_len hp
  simp [span_of_ok G (show p.length ≤ 15000 by omega)]
theorem spans_of_ok {a : List Nat} (G : List MO) (hc : cpOk a) (h : a.length ≤ 15000) : m_spans_of [.str (S a)] G = .ok (spansOf a) G := by
  have cc := c_spans_of_ok G h
  by_cases h1 : a = [45]
  · subst h1
    simp [m_spans_of, b_spans_of, s_min, spansOf, lenOk]
  · have h2 : ¬ (S a = S [45]) := fun q => h1 (S_inj q)
    have ho : okN 2 (.lst ((spc 44 a).map spanOf)) = true := okN_lst fun d hd => by
      obtain ⟨p, hp, rfl⟩ := List.mem_map.mp hd
      exact okN_spanOf (cpOk_spc hc hp) (by have := spc_len hp; omega)
    have hi := fun s => inD_non s ho (by omega)
    cases h3 : ((spc 44 a).map spanOf).any D.isNon with
    | true =>
      simp only [h3] at hi
      simp [m_spans_of, b_spans_of, s_min, h1, h2, cc, spansOf, hi, h3, -List.any_map]
    | false =>
      simp only [h3] at hi
      simp [m_spans_of, b_spans_of, s_min, h1, h2, cc, spansOf, hi, h3, -List.any_map]
/-! ### records -/
def pourL : List Nat := [112, 111, 117, 114]
def pageL : List Nat := [112, 97, 103, 101]
def linkL : List Nat := [108, 105, 110, 107]
def offL : List Nat := [111, 102, 102]
theorem s_pour : Str.ofString "pour" = S pourL := by decide +kernel
theorem s_page : Str.ofString "page" = S pageL := by decide +kernel
theorem s_link : Str.ofString "link" = S linkL := by decide +kernel
theorem s_off : Str.ofString "off" = S offL := by decide +kernel
def pPour (r : List (List Nat)) : D := match r with
  | r0 :: r1 :: r2 :: rs => .tup [.str (S pourL), .str (S r0), optI (numL r1), .str (S (joi 32 (r2 :: rs)))]
  | _ => .non
def pPage (r : List (List Nat)) : D := match r with
  | [r0, r1, r2, r3, r4] => .tup [.str (S pageL), .str (S r0), .str (S r1), optI (numL r2), idsOf r3, spansOf r4]
  | _ => .non
def pLink (r : List (List Nat)) : D := match r with
  | [r0, r1, r2, r3, r4] => .tup [.str (S linkL), .str (S r0), optI (numL r1), .str (S r2), spansOf r3, spansOf r4]
  | _ => .non
def pOff (r : List (List Nat)) : D := match r with
  | [r0, r1] => .tup [.str (S offL), .str (S r0), optI (numL r1)]
  | _ => .non
theorem pPage_ne {r : List (List Nat)} (h : r.length ≠ 5) : pPage r = .non := by
  unfold pPage
  split
  · exact absurd rfl h
  · rfl
theorem pLink_ne {r : List (List Nat)} (h : r.length ≠ 5) : pLink r = .non := by
  unfold pLink
  split
  · exact absurd rfl h
  · rfl
theorem pOff_ne {r : List (List Nat)} (h : r.length ≠ 2) : pOff r = .non := by
  unfold pOff
  split
  · exact absurd rfl h
  · rfl
def partsW (w : List Nat) (r : List (List Nat)) : D := if w = pourL then pPour r else if w = pageL then pPage r else if w = linkL then pLink r else if w = offL then pOff r else .non
def partsOf (a : List Nat) : D := partsW (hdL (spc 32 a)) (tlL (spc 32 a))
theorem okN_partsOf {a : List Nat} (hc : cpOk a) (h : a.length ≤ 15000) : okN 3 (partsOf a) = true := by
  have hw := cpOk_hd (c := 32) hc
  have hwl := hd_len 32 a
  have hr : ∀ p ∈ tlL (spc 32 a), cpOk p ∧ p.length ≤ 15000 := fun p hp => ⟨cpOk_tl hc hp, by have := tl_mem_len hp; omega⟩
  have hwg := tl_wgt 32 a
  unfold partsOf
  generalize hdL (spc 32 a) = w at *
  generalize tlL (spc 32 a) = r at *
  have str : ∀ {p : List Nat}, cpOk p → p.length ≤ 16777216 → okN 2 (.str (S p)) = true := fun {p} a b => okN_S a b
  have strR : ∀ {p : List Nat}, p ∈ r → okN 2 (.str (S p)) = true := fun {p} hp => okN_S (hr p hp).1 (by have := (hr p hp).2; omega)
  have up : ∀ {d : D}, okN 1 d = true → okN 2 d = true := fun {d} q => okN_up (by omega) q
  have hsw := str hw (by omega)
  have no : okN 3 .non = true := rfl
  have hs : ∀ p : List Nat, p = pourL ∨ p = pageL ∨ p = linkL ∨ p = offL → okN 2 (.str (S p)) = true := fun p hp => by rcases hp with rfl | rfl | rfl | rfl <;> decide +kernel
  unfold partsW
  split
  · unfold pPour
    split
    · rename_i r0 r1 r2 rs
      have hj : okN 2 (.str (S (joi 32 (r2 :: rs)))) = true := okN_S (cpOk_joi (by omega) fun p hp => (hr p (List.mem_cons_of_mem _ (List.mem_cons_of_mem _ hp))).1) (by
        have h1 := joi_len 32 (r2 :: rs)
        have h2 := wgt_cons r0 (r1 :: r2 :: rs)
        have h3 := wgt_cons r1 (r2 :: rs)
        omega)
      refine okN_tup fun d hd => ?_
      simp at hd
      rcases hd with rfl | rfl | rfl | rfl
      · exact hs _ (by simp)
      · exact strR (by simp)
      · exact okN_optI _
      · exact hj
    · exact no
  · split
    · unfold pPage
      split
      · rename_i r0 r1 r2 r3 r4
        refine okN_tup fun d hd => ?_
        simp at hd
        rcases hd with rfl | rfl | rfl | rfl | rfl | rfl
        · exact hs _ (by simp)
        · exact strR (by simp)
        · exact strR (by simp)
        · exact okN_optI _
        · exact okN_idsOf (hr _ (by simp)).1 (hr _ (by simp)).2
        · exact okN_spansOf (hr _ (by simp)).1 (hr _ (by simp)).2
      · exact no
    · split
      · unfold pLink
        split
        · rename_i r0 r1 r2 r3 r4
          refine okN_tup fun d hd => ?_
          simp at hd
          rcases hd with rfl | rfl | rfl | rfl | rfl | rfl
          · exact hs _ (by simp)
          · exact strR (by simp)
          · exact okN_optI _
          · exact strR (by simp)
          · exact okN_spansOf (hr _ (by simp)).1 (hr _ (by simp)).2
          · exact okN_spansOf (hr _ (by simp)).1 (hr _ (by simp)).2
        · exact no
      · split
        · unfold pOff
          split
          · rename_i r0 r1
            refine okN_tup fun d hd => ?_
            simp at hd
            rcases hd with rfl | rfl | rfl
            · exact hs _ (by simp)
            · exact strR (by simp)
            · exact okN_optI _
          · exact no
        · exact no
end Pw
namespace Pw
open PySem PySem.Spec PyProof.Rows L2 Ms SX
theorem gd_okN {n : Nat} {d : D} (h : okN n d = true) : gd d = true := okN_gd h
theorem n12 : ¬ pageL = pourL := by decide
theorem n13 : ¬ linkL = pourL := by decide
theorem n14 : ¬ offL = pourL := by decide
theorem n23 : ¬ linkL = pageL := by decide
theorem n24 : ¬ offL = pageL := by decide
theorem n34 : ¬ offL = linkL := by decide
theorem parts_of_ok {a : List Nat} (G : List MO) (hc : cpOk a) (h : a.length ≤ 15000) : m_parts_of [.str (S a)] G = .ok (partsOf a) G := by
  have h1 := tl_len 32 a
  have h2 := tl_wgt 32 a
  have e1 := split_ok (c := 32) (by omega) (a := a) (by omega)
  have hr : ∀ p ∈ tlL (spc 32 a), cpOk p ∧ p.length ≤ 15000 := fun p hp => ⟨cpOk_tl hc hp, by have := tl_mem_len hp; omega⟩
  have hI : ∀ w p : List Nat, (S w = S p) ↔ w = p := fun w p => ⟨fun q => S_inj q, fun q => by rw [q]⟩
  have n21 : ¬ S pageL = S pourL := fun q => n12 (S_inj q)
  have n31 : ¬ S linkL = S pourL := fun q => n13 (S_inj q)
  have n41 : ¬ S offL = S pourL := fun q => n14 (S_inj q)
  have n32 : ¬ S linkL = S pageL := fun q => n23 (S_inj q)
  have n42 : ¬ S offL = S pageL := fun q => n24 (S_inj q)
  have n43 : ¬ S offL = S linkL := fun q => n34 (S_inj q)
  unfold partsOf
  generalize hdL (spc 32 a) = w at *
  generalize tlL (spc 32 a) = r at *
  have h4 : r.length ≤ 16000 := by omega
  have num : ∀ p ∈ r, ∀ G, m_number_of [.str (S p)] G = .ok (optI (numL p)) G := fun p hp G => number_of_ok G (by have := (hr p hp).2; omega)
  have ids : ∀ p ∈ r, ∀ G, m_ids_of [.str (S p)] G = .ok (idsOf p) G := fun p hp G => ids_of_ok G (hr p hp).2
  have spn : ∀ p ∈ r, ∀ G, m_spans_of [.str (S p)] G = .ok (spansOf p) G := fun p hp G => spans_of_ok G (hr p hp).1 (hr p hp).2
  have oid : ∀ p ∈ r, gd (idsOf p) = true := fun p hp => okN_gd (okN_idsOf (hr p hp).1 (hr p hp).2)
  have osp : ∀ p ∈ r, gd (spansOf p) = true := fun p hp => okN_gd (okN_spansOf (hr p hp).1 (hr p hp).2)
  unfold partsW
  by_cases w1 : w = pourL
  · subst w1
    rcases r with _ | ⟨r0, _ | ⟨r1, _ | ⟨r2, rs⟩⟩⟩
    · simp [m_parts_of, b_parts_of, s_pour, s_page, s_link, s_off, s_bla, e1, hI, n12, n13, n14, Ne.symm n12, Ne.symm n13, Ne.symm n14, pPour]
    · simp [m_parts_of, b_parts_of, s_pour, s_page, s_link, s_off, s_bla, e1, hI, n12, n13, n14, Ne.symm n12, Ne.symm n13, Ne.symm n14, pPour]
    · simp [m_parts_of, b_parts_of, s_pour, s_page, s_link, s_off, s_bla, e1, hI, n12, n13, n14, Ne.symm n12, Ne.symm n13, Ne.symm n14, pPour]
    · have hj := fun s => joinD_joi s 32 (r2 :: rs) (by
        have h1 := wgt_cons r0 (r1 :: r2 :: rs)
        have h3 := wgt_cons r1 (r2 :: rs)
        omega)
      have hn1 := num r1 (by simp)
      have h5 : rs.length + 1 + 1 + 1 ≤ 16000 := by simpa using h4
      have h6 : (3 : Int) ≤ (rs.length : Int) + 1 + 1 + 1 := by omega
      simp only [List.map_cons] at hj
      simp [m_parts_of, b_parts_of, s_pour, s_bla, e1, hI, h5, h6, hn1, hj, lenOk, pPour]
  · by_cases w2 : w = pageL
    · subst w2
      by_cases hl : r.length = 5
      · obtain ⟨r0, r1, r2, r3, r4, rfl⟩ : ∃ r0 r1 r2 r3 r4, r = [r0, r1, r2, r3, r4] := by
          match r, hl with
          | [r0, r1, r2, r3, r4], _ => exact ⟨_, _, _, _, _, rfl⟩
        have q1 := num r2 (by simp)
        have q2 := ids r3 (by simp)
        have q3 := spn r4 (by simp)
        have g2 := oid r3 (by simp)
        have g3 := osp r4 (by simp)
        simp [m_parts_of, b_parts_of, s_pour, s_page, s_bla, e1, hI, n12, q1, q2, q3, g2, g3, lenOk, pPage]
      · have h5 : ¬ (r.length : Int) = 5 := by omega
        simp [m_parts_of, b_parts_of, s_pour, s_page, s_link, s_off, s_bla, e1, hI, n12, n23, n24, Ne.symm n23, Ne.symm n24, h4, h5, pPage_ne hl]
    · by_cases w3 : w = linkL
      · subst w3
        by_cases hl : r.length = 5
        · obtain ⟨r0, r1, r2, r3, r4, rfl⟩ : ∃ r0 r1 r2 r3 r4, r = [r0, r1, r2, r3, r4] := by
            match r, hl with
            | [r0, r1, r2, r3, r4], _ => exact ⟨_, _, _, _, _, rfl⟩
          have q1 := num r1 (by simp)
          have q2 := spn r3 (by simp)
          have q3 := spn r4 (by simp)
          have g2 := osp r3 (by simp)
          have g3 := osp r4 (by simp)
          simp [m_parts_of, b_parts_of, s_pour, s_page, s_link, s_bla, e1, hI, n13, n23, q1, q2, q3, g2, g3, lenOk, pLink]
        · have h5 : ¬ (r.length : Int) = 5 := by omega
          simp [m_parts_of, b_parts_of, s_pour, s_page, s_link, s_off, s_bla, e1, hI, n13, n23, n34, Ne.symm n34, h4, h5, pLink_ne hl]
      · by_cases w4 : w = offL
        · subst w4
          by_cases hl : r.length = 2
          · obtain ⟨r0, r1, rfl⟩ := len2 r hl
            have q1 := num r1 (by simp)
            simp [m_parts_of, b_parts_of, s_pour, s_page, s_link, s_off, s_bla, e1, hI, n14, n24, n34, q1, lenOk, pOff]
          · have h5 : ¬ (r.length : Int) = 2 := by omega
            simp [m_parts_of, b_parts_of, s_pour, s_page, s_link, s_off, s_bla, e1, hI, n14, n24, n34, h4, h5, pOff_ne hl]
        · simp [m_parts_of, b_parts_of, s_pour, s_page, s_link, s_off, s_bla, e1, hI, w1, w2, w3, w4, h4]
def recordOf (a : List Nat) : D := if isRecord (partsOf a) = true then partsOf a else .non
theorem okN_recordOf {a : List Nat} (hc : cpOk a) (h : a.length ≤ 15000) : okN 3 (recordOf a) = true := by
  unfold recordOf
  split
  · exact okN_partsOf hc h
  · rfl
theorem record_of_ok {a : List Nat} (G : List MO) (hc : cpOk a) (h : a.length ≤ 15000) : m_record_of [.str (S a)] G = .ok (recordOf a) G := by
  have e1 := parts_of_ok G hc h
  have ho := okN_partsOf hc h
  have hg := okN_gd ho
  have e2 := is_record_ok G (by omega) ho
  unfold recordOf
  cases hb : isRecord (partsOf a) <;> rw [hb] at e2 <;> simp [m_record_of, b_record_of, e1, hg, e2]
def noText (l : D) : D := .exc "NoText" "line" l
theorem read_spans_ok {a : List Nat} (G : List MO) (hc : cpOk a) (h : a.length ≤ 15000) : m_read_spans [.str (S a)] G = if (spansOf a).isNon = true then .exc (noText .non) G else .ok (spansOf a) G := by
  have e1 := spans_of_ok G hc h
  have hg := okN_gd (okN_spansOf hc h)
  cases hb : (spansOf a).isNon <;> simp [m_read_spans, b_read_spans, e1, hg, hb, noText, pickN]
theorem read_record_ok {a : List Nat} (G : List MO) (hc : cpOk a) (h : a.length ≤ 15000) : m_read_record [.str (S a)] G = if (recordOf a).isNon = true then .exc (noText .non) G else .ok (recordOf a) G := by
  have e1 := record_of_ok G hc h
  have hg := okN_gd (okN_recordOf hc h)
  cases hb : (recordOf a).isNon <;> simp [m_read_record, b_read_record, e1, hg, hb, noText, pickN]
end Pw
namespace Pw
open PySem PySem.Spec PyProof.Rows L2 Ms SX
def numFrom : Nat → List D → List D
  | _, [] => []
  | i, d :: ds => .tup [.int (i : Nat), d] :: numFrom (i + 1) ds
theorem numFrom_eq : ∀ (ds : List D) (i : Nat), (List.range' i ds.length).zipWith (fun (i : Nat) d => D.tup [.int i, d]) ds = numFrom i ds
  | [], _ => rfl
  | d :: ds, i => by
    rw [List.length_cons, List.range'_succ, List.zipWith_cons_cons, numFrom_eq ds (i + 1)]
    rfl
theorem numbered_eq (ds : List D) : Ms.numbered ds = numFrom 0 ds := by
  unfold Ms.numbered
  rw [List.range_eq_range', numFrom_eq]
def readL : Nat → List (List Nat) → List D → List D ⊕ Nat
  | _, [], acc => .inl acc
  | i, l :: ls, acc => if l = [] then readL (i + 1) ls acc else if (recordOf l).isNon = true then .inr (i + 1) else readL (i + 1) ls (acc ++ [recordOf l])
def Lines (ls : List (List Nat)) : Prop := ∀ l ∈ ls, cpOk l ∧ l.length ≤ 15000
theorem read_loop (t : D) (G : List MO) : ∀ (ls : List (List Nat)) (i : Nat) (acc : List D) (x2 x3 x4 : Slot), Lines ls → acc.length + ls.length ≤ 16777000 →
    (∃ y2 y3 y4, M.forL (.many [2, 3]) l_read_records_0 (numFrom i (ls.map fun l => .str (S l))) ⟨[.val t, .own (.lst acc), x2, x3, x4], G⟩ =
      match readL i ls acc with
      | .inl acc' => .ok .nx ⟨[.val t, .own (.lst acc'), y2, y3, y4], G⟩
      | .inr k => .exc (noText (.int (k : Nat))) ⟨[.val t, y2, y3, y4, .no], G⟩) ∨
    ∃ (k : Nat) (s : Sta), readL i ls acc = .inr k ∧ s.G = G ∧ M.forL (.many [2, 3]) l_read_records_0 (numFrom i (ls.map fun l => .str (S l))) ⟨[.val t, .own (.lst acc), x2, x3, x4], G⟩ = .exc (noText (.int (k : Nat))) s
  | [], i, acc, x2, x3, x4, _, _ => .inl ⟨x2, x3, x4, rfl⟩
  | l :: ls, i, acc, x2, x3, x4, hL, hn => by
    have hl := hL l List.mem_cons_self
    have hLs : Lines ls := fun p hp => hL p (List.mem_cons_of_mem _ hp)
    simp only [List.length_cons] at hn
    have eS : (S l = S []) ↔ l = [] := ⟨fun q => S_inj q, fun q => by rw [q]⟩
    simp only [List.map_cons, numFrom, readL]
    by_cases h0 : l = []
    · rw [if_pos h0]
      have step : ∀ ds, M.forL (.many [2, 3]) l_read_records_0 (.tup [.int (i : Nat), .str (S l)] :: ds) ⟨[.val t, .own (.lst acc), x2, x3, x4], G⟩ = M.forL (.many [2, 3]) l_read_records_0 ds ⟨[.val t, .own (.lst acc), .val (.int i), .val (.str (S l)), x4], G⟩ := fun ds => by
        simp [e_forL, l_read_records_0, s_nul, eS, h0]
      rw [step]
      exact read_loop t G ls (i + 1) acc _ _ _ hLs (by omega)
    · rw [if_neg h0]
      have er := record_of_ok G hl.1 hl.2
      have hg := okN_gd (okN_recordOf hl.1 hl.2)
      by_cases h1 : (recordOf l).isNon = true
      · rw [if_pos h1]
        refine .inr ⟨i + 1, ⟨[.val t, .own (.lst acc), .val (.int i), .val (.str (S l)), .val (recordOf l)], G⟩, rfl, rfl, ?_⟩
        simp [e_forL, l_read_records_0, s_nul, eS, h0, er, hg, h1, noText, pickK]
      · rw [if_neg h1]
        have h1 : (recordOf l).isNon = false := by simpa using h1
        have hln : lenOk (acc.length + 1) = true := lenOk_of (by omega)
        have step : ∀ ds, M.forL (.many [2, 3]) l_read_records_0 (.tup [.int (i : Nat), .str (S l)] :: ds) ⟨[.val t, .own (.lst acc), x2, x3, x4], G⟩ = M.forL (.many [2, 3]) l_read_records_0 ds ⟨[.val t, .own (.lst (acc ++ [recordOf l])), .val (.int i), .val (.str (S l)), .val (recordOf l)], G⟩ := fun ds => by
          simp [e_forL, l_read_records_0, s_nul, eS, h0, er, hg, h1, hln]
        rw [step]
        exact read_loop t G ls (i + 1) (acc ++ [recordOf l]) _ _ _ hLs (by simp; omega)
def readA (a : List Nat) : List D ⊕ Nat := readL 0 (spc 10 a) []
theorem read_records_ok {a : List Nat} (G : List MO) (hL : Lines (spc 10 a)) (h : a.length ≤ 16770000) : m_read_records [.str (S a)] G = match readA a with
    | .inl l => .ok (.lst l) G
    | .inr k => .exc (noText (.int (k : Nat))) G := by
  have e1 := splitD_spc (c := 10) (by omega) (a := a) (by omega)
  have hcnt := spc_cnt 10 a
  have lp := read_loop (.str (S a)) G (spc 10 a) 0 [] .no .no .no hL (by simp; omega)
  unfold readA
  rcases lp with ⟨y2, y3, y4, lp⟩ | ⟨k, s, e2, e3, lp⟩
  · cases e : readL 0 (spc 10 a) [] with
    | inl l =>
      rw [e] at lp
      simp only at lp
      simp [m_read_records, b_read_records, s_row, e1, numbered_eq, lp, lenOk]
    | inr k =>
      rw [e] at lp
      simp only at lp
      simp [m_read_records, b_read_records, s_row, e1, numbered_eq, lp, lenOk]
  · rw [e2]
    simp [m_read_records, b_read_records, s_row, e1, numbered_eq, lp, lenOk, e3]
end Pw
namespace Pw
open PySem PySem.Spec PyProof.Rows L2 Ms SX
/-! ### the bag -/
def BagAt (G : List MO) (g : Nat) : Prop := ∃ a b : Int, G[g]? = some (.lst [.int a, .int b]) ∧ 0 ≤ a ∧ 0 ≤ b ∧ b < 2147483648
theorem take_ok {G : List MO} {g : Nat} {a b many : Int} (h : G[g]? = some (.lst [.int a, .int b])) (ha : 0 ≤ a) (hb : 0 ≤ b) (hb2 : b < 2147483648) (hm : 0 < many) (hm2 : many.natAbs.log2 < 9000) :
    ∃ r a' b' : Int, m__law_take [.ref g, .int many] G = .ok (.int r) (G.set g (.lst [.int a', .int b'])) ∧ 0 ≤ r ∧ r < many ∧ 0 ≤ a' ∧ 0 ≤ b' ∧ b' < 2147483648 := by
  have hg : g < G.length := (List.getElem?_eq_some_iff.mp h).1
  have hb3 : b.natAbs.log2 < 31 := log2_lt hb (by omega) (by omega)
  have ix : ∀ (ρ : List Slot) (i : Int), ixD ⟨ρ, G⟩ (.ref g) (.int i) = atI [.int a, .int b] i := fun ρ i => ixD_ref ⟨ρ, G⟩ g i h
  have ix2 : ∀ (ρ : List Slot) (i x y : Int), ixD ⟨ρ, G.set g (.lst [.int x, .int y])⟩ (.ref g) (.int i) = atI [.int x, .int y] i := fun ρ i x y => ixD_ref ⟨ρ, _⟩ g i (List.getElem?_set_self hg)
  by_cases h0 : 0 < a
  · refine ⟨a % many, a / many, b, ?_, Int.emod_nonneg _ (by omega), Int.emod_lt_of_pos _ hm, Int.ediv_nonneg ha (by omega), hb, hb2⟩
    simp [m__law_take, b__law_take, h, ix, h0, gMod_e hm, gDiv_e hm hm2, ixN]
  · have h3 : 0 ≤ b * 48271 % 2147483647 := Int.emod_nonneg _ (by omega)
    have h4 : b * 48271 % 2147483647 < 2147483647 := Int.emod_lt_of_pos _ (by omega)
    generalize hb' : b * 48271 % 2147483647 = b' at h3 h4
    have h5 : b'.natAbs.log2 < 31 := log2_lt h3 (by omega) (by omega)
    have h60 : Nat.log2 48271 < 16 := by decide
    have m1 : gMul b 48271 = some (.int (b * 48271)) := gMul_e (by have : (48271 : Int).natAbs.log2 = Nat.log2 48271 := rfl; omega)
    have m2 : gMul b' b' = some (.int (b' * b')) := gMul_e (by omega)
    have d1 : ∀ x, gDiv x 64 = some (.int (x / 64)) := fun x => gDiv_e (by omega) (by decide)
    have o1 : ∀ x, gMod x 2147483647 = some (.int (x % 2147483647)) := fun x => gMod_e (by omega)
    have o2 : ∀ x, gMod x 2147483629 = some (.int (x % 2147483629)) := fun x => gMod_e (by omega)
    refine ⟨b' * b' % 2147483629 / 64 % many, a, b', ?_, Int.emod_nonneg _ (by omega), Int.emod_lt_of_pos _ hm, ha, h3, by omega⟩
    simp [m__law_take, b__law_take, h, ix, ix2, h0, gMod_e hm, m1, m2, d1, o1, o2, hb', ixN]
/-- the bags stand -/
def Ok (G : List MO) : Prop := ∀ g, g < G.length → BagAt G g
theorem Ok.nil : Ok [] := fun g h => absurd h (by simp)
theorem Ok.set {G : List MO} {g : Nat} {a b : Int} (h : Ok G) (ha : 0 ≤ a) (hb : 0 ≤ b) (hb2 : b < 2147483648) : Ok (G.set g (.lst [.int a, .int b])) := fun k hk => by
  rw [List.length_set] at hk
  by_cases e : k = g
  · subst e
    exact ⟨a, b, by rw [List.getElem?_set_self hk], ha, hb, hb2⟩
  · obtain ⟨a', b', q, r⟩ := h k hk
    exact ⟨a', b', by rw [List.getElem?_set_ne (Ne.symm e)]; exact q, r⟩
theorem Ok.app {G : List MO} {a b : Int} (h : Ok G) (ha : 0 ≤ a) (hb : 0 ≤ b) (hb2 : b < 2147483648) : Ok (G ++ [.lst [.int a, .int b]]) := fun k hk => by
  by_cases e : k < G.length
  · obtain ⟨a', b', q, r⟩ := h k e
    exact ⟨a', b', by rw [List.getElem?_append_left e]; exact q, r⟩
  · have : k = G.length := by simp at hk; omega
    subst this
    exact ⟨a, b, by simp, ha, hb, hb2⟩
theorem Ok.noX {G : List MO} (h : Ok G) : G.all MO.noX = true := by
  rw [List.all_eq_true]
  intro o ho
  obtain ⟨g, hg, e⟩ := List.getElem_of_mem ho
  obtain ⟨a, b, q, _⟩ := h g hg
  rw [List.getElem?_eq_getElem hg, e] at q
  cases q
  rfl
/-- .. so many -/
def OkN (n : Nat) (G : List MO) : Prop := Ok G ∧ G.length = n
theorem take {n : Nat} {G : List MO} {g : Nat} (many : Int) (hG : OkN n G) (hg : g < n) (hm : 0 < many) (hm2 : many < 2 ^ 200) : ∃ (r : Int) (G' : List MO), m__law_take [.ref g, .int many] G = .ok (.int r) G' ∧ 0 ≤ r ∧ r < many ∧ OkN n G' := by
  obtain ⟨hG, hn⟩ := hG
  obtain ⟨a, b, h, ha, hb, hb2⟩ := hG g (by omega)
  have := log2_lt (n := 200) (x := many) (by omega) hm2 (by omega)
  obtain ⟨r, a', b', e, h1, h2, h3, h4, h5⟩ := take_ok h ha hb hb2 hm (by omega)
  exact ⟨r, _, e, h1, h2, hG.set h3 h4 h5, by simp [hn]⟩
theorem bag_ok {n : Nat} {G : List MO} (l : List Int) (k : Nat) (hk : k < 100) (hG : OkN n G) : ∃ G', m__law_bag [.scr l, .int k] G = .ok (.ref n) G' ∧ OkN (n + 1) G' := by
  obtain ⟨hG, hn⟩ := hG
  subst hn
  have hk2 : (k : Int).natAbs.log2 < 7 := log2_lt (by omega) (by omega) (by omega)
  have l1 : (7919 : Int).natAbs.log2 < 13 := by decide
  have l2 : (104729 : Int).natAbs.log2 < 17 := by decide
  have mk : gMul 104729 (k : Int) = some (.int (104729 * (k : Int))) := gMul_e (by omega)
  have o1 : ∀ x, gMod x 2147483646 = some (.int (x % 2147483646)) := fun x => gMod_e (by omega)
  have p1 : gPow 10 18 = some (.int 1000000000000000000) := gPow_e (i := 10) (j := 18) (by omega)
  have ab : ∀ i : Int, gAbs (.int i) = some (.int (if i < 0 then -i else i)) := fun _ => rfl
  have fin : ∀ c : Int, 0 ≤ c → (∀ h : k < l.length, (if l[k] < 0 then -l[k] else l[k]) = c) → (¬ k < l.length → c = 0) → ∃ G', m__law_bag [.scr l, .int k] G = .ok (.ref G.length) G' ∧ OkN (G.length + 1) G' := fun c hc h3 h4 => by
    have e1 : (1 + (c * 7919 + 104729 * (k : Int)) % 2147483646) < 2147483648 ∧ 0 ≤ (1 + (c * 7919 + 104729 * (k : Int)) % 2147483646) := by omega
    have e2 : (1 + (c + (k : Int)) % 2147483646) < 2147483648 ∧ 0 ≤ (1 + (c + (k : Int)) % 2147483646) := by omega
    have at_ : ∀ h : k < l.length, (atI l (k : Int)).map D.int = some (.int l[k]) := fun h => by rw [Ms.atI_nat, List.getElem?_eq_getElem h]; rfl
    by_cases hl : k < l.length
    · have ec := h3 hl
      have hi : (k : Int) < (l.length : Int) := by omega
      by_cases hs : c < 1000000000000000000
      · have h5 := log2_lt (n := 60) hc (by omega) (by omega)
        have mc : gMul c 7919 = some (.int (c * 7919)) := gMul_e (by omega)
        refine ⟨_, ?_, hG.app (a := 0) (b := 1 + (c * 7919 + 104729 * (k : Int)) % 2147483646) (by omega) e1.2 e1.1, by simp⟩
        simp [m__law_bag, b__law_bag, hi, at_ hl, ab, ec, p1, hs, mc, mk, o1, lenOk]
      · refine ⟨_, ?_, hG.app (a := c) (b := 1 + (c + (k : Int)) % 2147483646) (by omega) e2.2 e2.1, by simp⟩
        simp [m__law_bag, b__law_bag, hi, at_ hl, ab, ec, p1, hs, o1, lenOk]
    · have hi : ¬ (k : Int) < (l.length : Int) := by omega
      have ec := h4 hl
      subst ec
      have mc : gMul 0 7919 = some (.int (0 * 7919)) := gMul_e (by have : (0 : Int).natAbs.log2 = 0 := rfl; omega)
      refine ⟨_, ?_, hG.app (a := 0) (b := 1 + (0 * 7919 + 104729 * (k : Int)) % 2147483646) (by omega) e1.2 e1.1, by simp⟩
      simp [m__law_bag, b__law_bag, hi, p1, mc, mk, o1, lenOk]
  by_cases hl : k < l.length
  · exact fin (if l[k] < 0 then -l[k] else l[k]) (by split <;> omega) (fun _ => rfl) (fun h => absurd hl h)
  · exact fin 0 (by omega) (fun h => absurd h hl) (fun _ => rfl)
theorem of_lst {n : Nat} {G : List MO} {g : Nat} (l : List D) (hG : OkN n G) (hg : g < n) (hl : 0 < l.length) (hl2 : l.length < 1000000) (ho : ∀ d ∈ l, gd d = true) : ∃ (d : D) (G' : List MO), m__law_of [.ref g, .lst l] G = .ok d G' ∧ d ∈ l ∧ OkN n G' := by
  obtain ⟨r, G', e, h1, h2, h3⟩ := take (l.length : Int) hG hg (by omega) (Int.lt_trans (b := 2 ^ 20) (by omega) (by decide))
  obtain ⟨k, rfl⟩ := Int.eq_ofNat_of_zero_le h1
  have hk : k < l.length := by omega
  refine ⟨l[k], G', ?_, List.getElem_mem hk, h3⟩
  have hgk := ho _ (List.getElem_mem hk)
  simp [m__law_of, b__law_of, e, Ms.atI_nat, List.getElem?_eq_getElem hk, hgk]
theorem of_str {n : Nat} {G : List MO} {g : Nat} (x : Str) (hG : OkN n G) (hg : g < n) (hl : 0 < x.length) (hl2 : x.length < 1000000) : ∃ (c : Nat) (G' : List MO), m__law_of [.ref g, .str x] G = .ok (.str ⟨#[c]⟩) G' ∧ c ∈ x.cps.toList ∧ OkN n G' := by
  obtain ⟨r, G', e, h1, h2, h3⟩ := take (x.length : Int) hG hg (by omega) (Int.lt_trans (b := 2 ^ 20) (by omega) (by decide))
  obtain ⟨k, rfl⟩ := Int.eq_ofNat_of_zero_le h1
  have hk : k < x.cps.toList.length := by rw [len_cps]; omega
  have hlen : lenOk x.length = true := lenOk_of (by omega)
  have hat : atI x.cps.toList (k : Int) = some x.cps.toList[k] := by rw [Ms.atI_nat, List.getElem?_eq_getElem hk]
  refine ⟨x.cps.toList[k], G', ?_, List.getElem_mem hk, h3⟩
  simp only [m__law_of, b__law_of, e_runFn, e_ret, e_op2, e_var, e_call, e_args, e_op1, e_args0, List.length_cons, List.length_nil, if_true, List.map_cons, List.map_nil, List.cons_append, List.nil_append]
  simp [hlen, e, -Array.getElem_toList, hat, -Array.getElem?_toList]
end Pw
namespace Pw
open PySem PySem.Spec PyProof.Rows L2 Ms SX
theorem choose_list {α : Type} {f : α → D} {Q : α → Prop} : ∀ {ys : List D}, (∀ y ∈ ys, ∃ a, Q a ∧ y = f a) → ∃ as : List α, ys = as.map f ∧ ∀ a ∈ as, Q a
  | [], _ => ⟨[], rfl, by simp⟩
  | y :: ys, h => by
    obtain ⟨a, ha, rfl⟩ := h y List.mem_cons_self
    obtain ⟨as, rfl, hs⟩ := choose_list (ys := ys) fun z hz => h z (List.mem_cons_of_mem _ hz)
    exact ⟨a :: as, rfl, fun b hb => (List.mem_cons.mp hb).elim (fun e => e ▸ ha) (hs b)⟩
theorem joinL_nil : ∀ zs : List Nat, TL.joinL [] (zs.map fun c => [c]) = zs
  | [] => rfl
  | [c] => rfl
  | c :: d :: r => by
    show [c] ++ ([] ++ TL.joinL [] ((d :: r).map fun c => [c])) = _
    rw [joinL_nil (d :: r)]
    rfl
theorem join_signs (s : Sta) (zs : List Nat) (h : zs.length ≤ 16777000) : joinD s (.str (S [])) (.lst (zs.map fun c => .str (S [c]))) = some (.str (S zs)) := by
  have e : (zs.map fun c => D.str (S [c])) = ((zs.map fun c => [c]).map S).map .str := by rw [List.map_map, List.map_map]; rfl
  have hs : ((((zs.map fun c => [c]).map S).map (·.length)).sum) = zs.length := by
    rw [lens_S, List.map_map]
    clear e h
    induction zs with
    | nil => rfl
    | cons c zs ih =>
      rw [List.map_cons, List.sum_cons, ih, List.length_cons]
      show 1 + _ = _
      omega
  rw [e, joinD_strs, join_S, joinL_nil]
  rw [hs, S_len]
  simp
  omega
theorem abc_S : Str.ofString "abcdefghijklmnopqrstuvwxyz" = S abcS.cps.toList := by rw [S_str]; rfl
theorem abc_cps : abcS.cps.toList = [97, 98, 99, 100, 101, 102, 103, 104, 105, 106, 107, 108, 109, 110, 111, 112, 113, 114, 115, 116, 117, 118, 119, 120, 121, 122] := by decide +kernel
theorem abc_mem {c : Nat} : c ∈ abcS.cps.toList ↔ 97 ≤ c ∧ c ≤ 122 := by
  rw [abc_cps]
  simp
  omega
theorem nameB_S {zs : List Nat} (h1 : 1 ≤ zs.length) (h2 : zs.length ≤ 8) (h : ∀ c ∈ zs, c ∈ abcS.cps.toList) : nameB (S zs) = true := by
  unfold nameB
  rw [S_len, decide_eq_true h1, decide_eq_true h2, Bool.true_and, Bool.true_and, List.all_eq_true]
  exact fun c hc => decide_eq_true (h c (by simpa using hc))
theorem nameB_inv {x : Str} (h : nameB x = true) : ∃ zs : List Nat, x = S zs ∧ 1 ≤ zs.length ∧ zs.length ≤ 8 ∧ ∀ c ∈ zs, 97 ≤ c ∧ c ≤ 122 := by
  unfold nameB at h
  rw [Bool.and_eq_true, Bool.and_eq_true, decide_eq_true_eq, decide_eq_true_eq, List.all_eq_true] at h
  refine ⟨x.cps.toList, (S_str x).symm, by rw [len_cps]; exact h.1, by rw [len_cps]; exact h.2.1, fun c hc => abc_mem.mp (of_decide_eq_true (h.2.2 c hc))⟩
/-! ### names -/
theorem c_name_ok {n : Nat} {G : List MO} {g : Nat} {m : Int} (hG : OkN n G) (hg : g < n) (h1 : 1 ≤ m) (h2 : m ≤ 8) : ∃ (zs : List Nat) (G' : List MO), c__law_name_0 ⟨[.val (.ref g), .val (.int m), .no], G⟩ = .ok (zs.map fun c => .str (S [c])) ⟨[.val (.ref g), .val (.int m), .no], G'⟩ ∧ (zs.length : Int) = m ∧ (∀ c ∈ zs, c ∈ abcS.cps.toList) ∧ OkN n G' := by
  obtain ⟨ys, G', e, hl, hp, hI⟩ := comp_inv (vs := [2]) (mi := M.range1 [M.var 1]) (t := .one 2) (e := M.op2 fIx (M.lit (.str (Str.ofString "abcdefghijklmnopqrstuvwxyz"))) (M.call m__law_take [M.var 0, M.lit (.int 26)])) (s := ⟨[.val (.ref g), .val (.int m), .no], G⟩) (s1 := ⟨[.val (.ref g), .val (.int m), .no], G⟩)
    (ρ := [.val (.ref g), .val (.int m), .no]) (G := G) (I := OkN n) (P := fun y => ∃ c, c ∈ abcS.cps.toList ∧ y = .str (S [c])) (ds := rngD 0 m.toNat) (by simp; omega) (lenOk_of (by rw [rngD_len]; omega)) rfl hG fun d hd G hG => by
      obtain ⟨r, G1, e1, a1, b1, o1⟩ := take 26 hG hg (by omega) (by decide)
      obtain ⟨k, rfl⟩ := Int.eq_ofNat_of_zero_le a1
      have hk : k < abcS.cps.toList.length := by rw [abc_cps]; simp; omega
      have hat : atI abcS.cps.toList (k : Int) = some abcS.cps.toList[k] := by rw [Ms.atI_nat, List.getElem?_eq_getElem hk]
      have hlen : lenOk (S abcS.cps.toList).length = true := by rw [S_len, abc_cps]; rfl
      refine ⟨.str (S [abcS.cps.toList[k]]), G1, ⟨[.val (.ref g), .val (.int m), .val d], G⟩, ⟨[.val (.ref g), .val (.int m), .val d], G1⟩, rfl, ?_, rfl, rfl, ⟨_, List.getElem_mem hk, rfl⟩, o1⟩
      rw [abc_S]
      generalize abcS.cps.toList = L at *
      simp [e1, hlen, hat]
  obtain ⟨zs, rfl, hz⟩ := choose_list hp
  refine ⟨zs, G', e, ?_, hz, hI⟩
  rw [List.length_map, rngD_len] at hl
  omega
theorem name_ok {n : Nat} {G : List MO} {g : Nat} (hG : OkN n G) (hg : g < n) : ∃ (x : Str) (G' : List MO), m__law_name [.ref g] G = .ok (.str x) G' ∧ nameB x = true ∧ OkN n G' := by
  obtain ⟨r1, G1, e1, a1, b1, o1⟩ := take 3 hG hg (by omega) (by decide)
  obtain ⟨r2, G2, e2, a2, b2, o2⟩ := take 8 o1 hg (by omega) (by decide)
  obtain ⟨r3, G3, e3, a3, b3, o3⟩ := take 4 o2 hg (by omega) (by decide)
  have fin : ∀ m : Int, 1 ≤ m → m ≤ 8 → atI [D.int r1, .int r2] (if r3 = 0 then 1 else 0) = some (.int (m - 1)) → ∃ (x : Str) (G' : List MO), m__law_name [.ref g] G = .ok (.str x) G' ∧ nameB x = true ∧ OkN n G' := fun m hm1 hm2 hat => by
    obtain ⟨zs, G4, e4, hl, hz, o4⟩ := c_name_ok (m := m) o3 hg hm1 hm2
    have hj := fun s => join_signs s zs (by omega)
    refine ⟨S zs, G4, ?_, nameB_S (by omega) (by omega) hz, o4⟩
    have hg2 : gIntS (.bl (decide (r3 = 0))) = some (.int (if r3 = 0 then 1 else 0)) := by
      show some (D.int (if decide (r3 = 0) = true then 1 else 0)) = _
      simp
    have e5 : (1 : Int) + (m - 1) = m := by omega
    simp [m__law_name, b__law_name, e1, e2, e3, lenOk, hg2, hat, e5, e4, s_nul, hj]
  by_cases h0 : r3 = 0
  · exact fin (r2 + 1) (by omega) (by omega) (by simp [h0])
  · exact fin (r1 + 1) (by omega) (by omega) (by simp [h0])
theorem ann_nm : nameB (Str.ofString "ann") = true := by decide +kernel
theorem bo_nm : nameB (Str.ofString "bo") = true := by decide +kernel
theorem cy_nm : nameB (Str.ofString "cy") = true := by decide +kernel
abbrev Sp := Str × Int × Int
abbrev Sg := Str × Int
def spD (s : Sp) : D := .tup [.str s.1, .int s.2.1, .int s.2.2]
def sgD (s : Sg) : D := .tup [.str s.1, .int s.2]
def SpOk (s : Sp) : Prop := nameB s.1 = true ∧ 0 ≤ s.2.1 ∧ s.2.1 < s.2.2 ∧ s.2.2 ≤ 1000000 ∧ s.2.2 - s.2.1 ≤ 12
theorem nm_len {x : Str} (h : nameB x = true) : lenOk x.length = true := by
  unfold nameB at h
  rw [Bool.and_eq_true, Bool.and_eq_true, decide_eq_true_eq, decide_eq_true_eq] at h
  exact lenOk_of (by omega)
theorem span_ok {n : Nat} {G : List MO} {g : Nat} (hG : OkN n G) (hg : g < n) : ∃ (s : Sp) (G' : List MO), m__law_span [.ref g] G = .ok (spD s) G' ∧ SpOk s ∧ OkN n G' := by
  obtain ⟨x, G1, e1, hx, o1⟩ := name_ok hG hg
  obtain ⟨d, G2, e2, hd, o2⟩ := of_lst [.str (Str.ofString "ann"), .str (Str.ofString "ann"), .str (Str.ofString "bo"), .str (Str.ofString "cy"), .str x] o1 hg (by simp) (by simp) (fun d hd => by
    simp at hd
    rcases hd with rfl | rfl | rfl | rfl
    · exact nm_len ann_nm
    · exact nm_len bo_nm
    · exact nm_len cy_nm
    · exact nm_len hx)
  obtain ⟨y, rfl, hy⟩ : ∃ y, d = .str y ∧ nameB y = true := by
    simp at hd
    rcases hd with rfl | rfl | rfl | rfl
    · exact ⟨_, rfl, ann_nm⟩
    · exact ⟨_, rfl, bo_nm⟩
    · exact ⟨_, rfl, cy_nm⟩
    · exact ⟨_, rfl, hx⟩
  obtain ⟨r3, G3, e3, a3, b3, o3⟩ := take 4 o2 hg (by omega) (by decide)
  obtain ⟨r4, G4, e4, a4, b4, o4⟩ := take 12 o3 hg (by omega) (by decide)
  obtain ⟨r5, G5, e5, a5, b5, o5⟩ := take 3 o4 hg (by omega) (by decide)
  obtain ⟨m, hm, m1, m2⟩ : ∃ m : Int, atI [D.int 1, .int (1 + r3), .int (1 + r4)] r5 = some (.int m) ∧ 1 ≤ m ∧ m ≤ 12 := by
    have : r5 = 0 ∨ r5 = 1 ∨ r5 = 2 := by omega
    rcases this with rfl | rfl | rfl
    · exact ⟨1, by simp, by omega, by omega⟩
    · exact ⟨1 + r3, by simp, by omega, by omega⟩
    · exact ⟨1 + r4, by simp, by omega, by omega⟩
  obtain ⟨r6, G6, e6, a6, b6, o6⟩ := take 9 o5 hg (by omega) (by decide)
  obtain ⟨r7, G7, e7, a7, b7, o7⟩ := take 40 o6 hg (by omega) (by decide)
  obtain ⟨r8, G8, e8, a8, b8, o8⟩ := take 20 o7 hg (by omega) (by decide)
  obtain ⟨f, hf, f1, f2⟩ : ∃ f : Int, atI [D.int r6, .int r7, .int (1000000 - m)] (if r8 / 9 < 2 then r8 / 9 else 2) = some (.int f) ∧ 0 ≤ f ∧ f + m ≤ 1000000 := by
    have : r8 / 9 = 0 ∨ r8 / 9 = 1 ∨ r8 / 9 = 2 := by omega
    rcases this with h | h | h <;> rw [h]
    · exact ⟨r6, by simp, by omega, by omega⟩
    · exact ⟨r7, by simp, by omega, by omega⟩
    · exact ⟨1000000 - m, by simp, by omega, by omega⟩
  have p1 : gPow 10 6 = some (.int 1000000) := gPow_e (i := 10) (j := 6) (by omega)
  have d1 : gDiv r8 9 = some (.int (r8 / 9)) := gDiv_e (by omega) (by decide)
  refine ⟨(y, f, f + m), G8, ?_, ⟨hy, f1, by show f < f + m; omega, f2, by show f + m - f ≤ 12; omega⟩, o8⟩
  simp [m__law_span, b__law_span, e1, e2, e3, e4, e5, e6, e7, e8, hm, hf, p1, d1, lenOk, spD]
end Pw
namespace Pw
open PySem PySem.Spec PyProof.Rows L2 Ms SX
/-! ### signs of spans -/
def sgsOf (s : Sp) : List Sg := (List.range (s.2.2 - s.2.1).toNat).map fun (i : Nat) => (s.1, s.2.1 + (i : Int))
theorem sgs_len (s : Sp) : (sgsOf s).length = (s.2.2 - s.2.1).toNat := by simp [sgsOf]
theorem signs_in (p : D) (n : Str) (x3 x4 : Slot) (G : List MO) : ∀ (ks : List Int) (acc : List D) (x5 : Slot), acc.length + ks.length ≤ 16777000 →
    ∃ y5, M.forL (.one 5) l__law_signs_0 (ks.map .int) ⟨[.val p, .own (.lst acc), .val (.str n), x3, x4, x5], G⟩ = .ok .nx ⟨[.val p, .own (.lst (acc ++ ks.map fun k => sgD (n, k))), .val (.str n), x3, x4, y5], G⟩
  | [], acc, x5, _ => ⟨x5, by simp⟩
  | k :: ks, acc, x5, h => by
    simp only [List.length_cons] at h
    obtain ⟨y5, ih⟩ := signs_in p n x3 x4 G ks (acc ++ [sgD (n, k)]) (.val (.int k)) (by simp; omega)
    refine ⟨y5, ?_⟩
    have hl : lenOk (acc.length + 1) = true := lenOk_of (by omega)
    have step : ∀ ds, M.forL (.one 5) l__law_signs_0 (.int k :: ds) ⟨[.val p, .own (.lst acc), .val (.str n), x3, x4, x5], G⟩ = M.forL (.one 5) l__law_signs_0 ds ⟨[.val p, .own (.lst (acc ++ [sgD (n, k)])), .val (.str n), x3, x4, .val (.int k)], G⟩ := fun ds => by
      simp [e_forL, l__law_signs_0, hl, show lenOk 2 = true from rfl, sgD]
    rw [List.map_cons, step, ih]
    simp
theorem rngD_map (lo : Int) (n : Nat) : rngD lo n = ((List.range n).map fun (i : Nat) => lo + (i : Int)).map .int := by
  unfold rngD
  rw [List.map_map]
  rfl
theorem signs_out (p : D) (G : List MO) : ∀ (ss : List Sp) (acc : List D) (x2 x3 x4 x5 : Slot), (∀ s ∈ ss, SpOk s) → acc.length + 12 * ss.length ≤ 16777000 →
    ∃ y2 y3 y4 y5, M.forL (.many [2, 3, 4]) l__law_signs_1 (ss.map spD) ⟨[.val p, .own (.lst acc), x2, x3, x4, x5], G⟩ = .ok .nx ⟨[.val p, .own (.lst (acc ++ (ss.flatMap sgsOf).map sgD)), y2, y3, y4, y5], G⟩
  | [], acc, x2, x3, x4, x5, _, _ => ⟨x2, x3, x4, x5, by simp⟩
  | s :: ss, acc, x2, x3, x4, x5, hs, h => by
    simp only [List.length_cons] at h
    obtain ⟨h1, h2, h3, h4, h5⟩ := hs s List.mem_cons_self
    obtain ⟨y5, e1⟩ := signs_in p s.1 (.val (.int s.2.1)) (.val (.int s.2.2)) G ((List.range (s.2.2 - s.2.1).toNat).map fun (i : Nat) => s.2.1 + (i : Int)) acc x5 (by simp; omega)
    have e2 : ((List.range (s.2.2 - s.2.1).toNat).map fun (i : Nat) => s.2.1 + (i : Int)).map (fun k => sgD (s.1, k)) = (sgsOf s).map sgD := by
      unfold sgsOf
      rw [List.map_map, List.map_map]
      rfl
    rw [← rngD_map, e2] at e1
    obtain ⟨z2, z3, z4, z5, ih⟩ := signs_out p G ss (acc ++ (sgsOf s).map sgD) (.val (.str s.1)) (.val (.int s.2.1)) (.val (.int s.2.2)) y5 (fun t ht => hs t (List.mem_cons_of_mem _ ht)) (by rw [List.length_append, List.length_map, sgs_len]; omega)
    refine ⟨z2, z3, z4, z5, ?_⟩
    have hb : (-(2 ^ 62 : Int) ≤ s.2.1 ∧ s.2.1 < 2 ^ 62 ∧ -(2 ^ 62 : Int) ≤ s.2.2 ∧ s.2.2 < 2 ^ 62) := by omega
    rw [List.map_cons, e_forL]
    have step : (M.bindTo (.many [2, 3, 4]) (spD s) ⟨[.val p, .own (.lst acc), x2, x3, x4, x5], G⟩) = .ok .nx ⟨[.val p, .own (.lst acc), .val (.str s.1), .val (.int s.2.1), .val (.int s.2.2), x5], G⟩ := by simp [spD]
    rw [step, andThen_ok]
    have body : l__law_signs_1 ⟨[.val p, .own (.lst acc), .val (.str s.1), .val (.int s.2.1), .val (.int s.2.2), x5], G⟩ = .ok .nx ⟨[.val p, .own (.lst (acc ++ (sgsOf s).map sgD)), .val (.str s.1), .val (.int s.2.1), .val (.int s.2.2), y5], G⟩ := by
      unfold l__law_signs_1
      have hr : rng2K [.int s.2.1, .int s.2.2] ⟨[.val p, .own (.lst acc), .val (.str s.1), .val (.int s.2.1), .val (.int s.2.2), x5], G⟩ = .ok (rngD s.2.1 (s.2.2 - s.2.1).toNat) ⟨[.val p, .own (.lst acc), .val (.str s.1), .val (.int s.2.1), .val (.int s.2.2), x5], G⟩ := by
        rw [rng2K_int, if_pos hb]
      simp [-rng2K_int, hr, e1]
    rw [body, andThen_ok, loopK_nx, ih]
    simp
theorem signs_ok {ss : List Sp} (G : List MO) (hs : ∀ s ∈ ss, SpOk s) (hl : ss.length ≤ 1000) : m__law_signs [.lst (ss.map spD)] G = .ok (.lst ((ss.flatMap sgsOf).map sgD)) G := by
  obtain ⟨y2, y3, y4, y5, e⟩ := signs_out (.lst (ss.map spD)) G ss [] .no .no .no .no hs (by simp; omega)
  simp at e
  simp [m__law_signs, b__law_signs, lenOk, e]
/-! ### the spans of signs -/
def pgGo (ini : List Sp) (n : Str) (f e : Int) : List Sg → List Sp
  | [] => ini ++ [(n, f, e)]
  | (n', k) :: r => if n = n' ∧ e = k then pgGo ini n f (k + 1) r else pgGo (ini ++ [(n, f, e)]) n' k (k + 1) r
def pgOf : List Sg → List Sp
  | [] => []
  | (n, k) :: r => pgGo [] n k (k + 1) r
theorem okN_spD {s : Sp} (h : nameB s.1 = true) : okN 1 (spD s) = true := by
  obtain ⟨zs, e, h1, h2, h3⟩ := nameB_inv h
  refine okN_tup fun d hd => ?_
  simp at hd
  rcases hd with rfl | rfl | rfl
  · rw [e]; exact okN_S (fun c hc => by have := h3 c hc; omega) (by omega)
  · rfl
  · rfl
theorem eqD_own0 {n : Nat} {l : List D} {s : Sta} {i : Nat} (h : s.ρ[i]? = some (.own (.lst l))) (ho : okN n (.lst l) = true) (hn : n ≤ 64) : eqD s (.own i) (.lst []) = some l.isEmpty := by
  obtain ⟨p, e1, e2, e3⟩ := okN_py ho
  have e1' := e1
  simp [D.py] at e1'
  obtain ⟨ps, f1, rfl⟩ := e1'
  have hs : (SeqAt.shaped (.list ps) && SeqAt.shaped (.list [])) = true := by rw [shaped_of e2 e3 hn]; rfl
  have g1 : (D.own i).pyS s = some (.list ps) := by
    show (match (D.own i).seqL s with | some l => (pyL l).map PyData.list | none => none) = _
    rw [seqL_own, h]
    simp [f1]
  show (match (D.own i).pyS s, (D.lst []).pyS s with | some p, some q => if SeqAt.shaped p && SeqAt.shaped q then some (PyData.eqv p q) else none | _, _ => none) = _
  rw [g1, show (D.lst []).pyS s = some (.list []) from rfl]
  simp only [hs, if_true, PyData.eqv]
  cases l with
  | nil => simp [pyL] at f1; subst f1; simp [PyData.eqvAll]
  | cons d ds =>
    rw [pyL] at f1
    split at f1
    · cases f1; simp [PyData.eqvAll]
    · cases f1
theorem okN_sps {l : List Sp} (h : ∀ s ∈ l, nameB s.1 = true) : okN 2 (.lst (l.map spD)) = true := okN_lst fun d hd => by
  obtain ⟨s, hs, rfl⟩ := List.mem_map.mp hd
  exact okN_spD (h s hs)
theorem page_loop (p : D) (G : List MO) : ∀ (sg : List Sg) (ini : List Sp) (n : Str) (f e : Int) (x2 x3 : Slot), (∀ s ∈ ini, nameB s.1 = true) → nameB n = true → (∀ s ∈ sg, nameB s.1 = true) → ini.length + sg.length ≤ 16777000 →
    ∃ y2 y3, M.forL (.many [2, 3]) l__law_page_of_0 (sg.map sgD) ⟨[.val p, .own (.lst ((ini ++ [(n, f, e)]).map spD)), x2, x3], G⟩ = .ok .nx ⟨[.val p, .own (.lst ((pgGo ini n f e sg).map spD)), y2, y3], G⟩
  | [], ini, n, f, e, x2, x3, _, _, _, _ => ⟨x2, x3, rfl⟩
  | (n', k) :: sg, ini, n, f, e, x2, x3, hi, hn, hs, hl => by
    simp only [List.length_cons] at hl
    have hn' := hs _ List.mem_cons_self
    have hsg : ∀ s ∈ sg, nameB s.1 = true := fun s q => hs s (List.mem_cons_of_mem _ q)
    have hall : ∀ s ∈ ini ++ [(n, f, e)], nameB s.1 = true := fun s q => (List.mem_append.mp q).elim (hi s) fun q => by rw [List.mem_singleton.mp q]; exact hn
    have he : ∀ ρ2 ρ3 : Slot, eqD ⟨[.val p, .own (.lst ((ini ++ [(n, f, e)]).map spD)), ρ2, ρ3], G⟩ (.own 1) (.lst []) = some false := fun ρ2 ρ3 => by
      rw [eqD_own0 (l := (ini ++ [(n, f, e)]).map spD) rfl (okN_sps hall) (by omega)]
      simp
    have hix : ∀ ρ2 ρ3 : Slot, ixD ⟨[.val p, .own (.lst ((ini ++ [(n, f, e)]).map spD)), ρ2, ρ3], G⟩ (.own 1) (.int (-1)) = some (spD (n, f, e)) := fun ρ2 ρ3 => by
      rw [ixD_own _ 1 _ (l := (ini ++ [(n, f, e)]).map spD) rfl]
      simp
    have hset : (ixN ((ini ++ [(n, f, e)]).map spD).length (-1)).map (fun j => MO.lst (((ini ++ [(n, f, e)]).map spD).set j (spD (n, f, k + 1)))) = some (.lst ((ini ++ [(n, f, k + 1)]).map spD)) := by
      have e1 : ixN ((ini ++ [(n, f, e)]).map spD).length (-1) = some ini.length := by
        unfold ixN
        simp
        constructor <;> omega
      rw [e1]
      simp
    have hlen : lenOk (((ini ++ [(n, f, e)]).map spD).length + 1) = true := lenOk_of (by simp; omega)
    generalize hL : (ini ++ [(n, f, e)]).map spD = L at *
    by_cases hc : n = n' ∧ e = k
    · obtain ⟨rfl, rfl⟩ := hc
      obtain ⟨y2, y3, ih⟩ := page_loop p G sg ini n f (e + 1) (.val (.str n)) (.val (.int e)) hi hn hsg (by omega)
      refine ⟨y2, y3, ?_⟩
      simp only [spD] at hix hset
      have step : ∀ ds, M.forL (.many [2, 3]) l__law_page_of_0 (sgD (n, e) :: ds) ⟨[.val p, .own (.lst L), x2, x3], G⟩ = M.forL (.many [2, 3]) l__law_page_of_0 ds ⟨[.val p, .own (.lst ((ini ++ [(n, f, e + 1)]).map spD)), .val (.str n), .val (.int e)], G⟩ := fun ds => by
        obtain ⟨j, hj1, hj2⟩ := Option.map_eq_some_iff.mp hset
        simp only [MO.lst.injEq] at hj2
        simp [e_forL, l__law_page_of_0, sgD, he, hix, hj1, hj2, negD, lenOk, -List.map_append]
      rw [List.map_cons, step, pgGo, if_pos ⟨rfl, rfl⟩, ih]
    · obtain ⟨y2, y3, ih⟩ := page_loop p G sg (ini ++ [(n, f, e)]) n' k (k + 1) (.val (.str n')) (.val (.int k)) hall hn' hsg (by simp; omega)
      refine ⟨y2, y3, ?_⟩
      simp only [spD] at hix
      have step : ∀ ds, M.forL (.many [2, 3]) l__law_page_of_0 (sgD (n', k) :: ds) ⟨[.val p, .own (.lst L), x2, x3], G⟩ = M.forL (.many [2, 3]) l__law_page_of_0 ds ⟨[.val p, .own (.lst (L ++ [spD (n', k, k + 1)])), .val (.str n'), .val (.int k)], G⟩ := fun ds => by
        by_cases h1 : n = n'
        · have h2 : ¬ e = k := fun q => hc ⟨h1, q⟩
          simp [e_forL, l__law_page_of_0, sgD, he, hix, negD, h1, h2, hlen, spD, show lenOk 3 = true from rfl, show lenOk 0 = true from rfl]
        · simp [e_forL, l__law_page_of_0, sgD, he, hix, negD, h1, hlen, spD, show lenOk 3 = true from rfl, show lenOk 0 = true from rfl]
      rw [List.map_append, hL] at ih
      rw [List.map_cons, step, pgGo, if_neg hc]
      exact ih
theorem page_of_ok {sg : List Sg} (G : List MO) (hs : ∀ s ∈ sg, nameB s.1 = true) (hl : sg.length ≤ 16000000) : m__law_page_of [.lst (sg.map sgD)] G = .ok (.tup ((pgOf sg).map spD)) G := by
  cases sg with
  | nil => simp [m__law_page_of, b__law_page_of, lenOk, pgOf]
  | cons s sg =>
    obtain ⟨n, k⟩ := s
    simp only [List.length_cons] at hl
    obtain ⟨y2, y3, ih⟩ := page_loop (.lst (((n, k) :: sg).map sgD)) G sg [] n k (k + 1) (.val (.str n)) (.val (.int k)) (by simp) (hs _ List.mem_cons_self) (fun s q => hs s (List.mem_cons_of_mem _ q)) (by simp; omega)
    have he : ∀ ρ2 ρ3 : Slot, eqD ⟨[.val (.lst (((n, k) :: sg).map sgD)), .own (.lst []), ρ2, ρ3], G⟩ (.own 1) (.lst []) = some true := fun ρ2 ρ3 => eqD_own0 (n := 1) (l := []) rfl rfl (by omega)
    have step : M.forL (.many [2, 3]) l__law_page_of_0 (((n, k) :: sg).map sgD) ⟨[.val (.lst (((n, k) :: sg).map sgD)), .own (.lst []), .no, .no], G⟩ = .ok .nx ⟨[.val (.lst (((n, k) :: sg).map sgD)), .own (.lst ((pgGo [] n k (k + 1) sg).map spD)), y2, y3], G⟩ := by
      rw [← ih]
      generalize hq : D.lst (((n, k) :: sg).map sgD) = q at *
      have step : ∀ ds, M.forL (.many [2, 3]) l__law_page_of_0 (sgD (n, k) :: ds) ⟨[.val q, .own (.lst []), .no, .no], G⟩ = M.forL (.many [2, 3]) l__law_page_of_0 ds ⟨[.val q, .own (.lst [spD (n, k, k + 1)]), .val (.str n), .val (.int k)], G⟩ := fun ds => by
        simp [e_forL, l__law_page_of_0, sgD, he, spD, show lenOk 3 = true from rfl, show lenOk 0 = true from rfl, show lenOk 1 = true from rfl]
      rw [List.map_cons, step]
      rfl
    generalize hq : ((n, k) :: sg).map sgD = q at *
    simp [m__law_page_of, b__law_page_of, lenOk, step, pgOf]
end Pw
namespace Pw
open PySem PySem.Spec PyProof.Rows L2 Ms SX
/-! ### order -/
theorem dataLt_sg (n n' : Str) (k k' : Int) : PySem.W.dataLt (.tuple [.str n, .int k]) (.tuple [.str n', .int k']) = (strLt n n' || (decide (n = n') && decide (k < k'))) := by
  have e1 : ∀ (n : Str) (k : Int), PySem.W.keyToks (.tuple [.str n, .int k]) = [.inl 1, .inr n.cps.toList, .inl 1, .inl k, .inl 0] := fun n k => by simp [PySem.W.keyToks, PySem.W.keyToksAll]
  have e2 : strLt n n' = PyProof.Rows.lexLt PyProof.Rows.itemOrd [.inr n.cps.toList] [.inr n'.cps.toList] := by simp [strLt, PySem.W.dataLt, PySem.W.keyToks]
  unfold PySem.W.dataLt
  rw [e1, e1, e2]
  by_cases h : n = n'
  · subst h
    have e3 := PySem.W.lex_pre [.inl 1, .inr n.cps.toList, .inl 1] [.inl k, .inl 0] [.inl k', .inl 0]
    simp only [List.cons_append, List.nil_append] at e3
    rw [e3]
    have e4 : PyProof.Rows.lexLt PyProof.Rows.itemOrd [.inr n.cps.toList] [.inr n.cps.toList] = false := PyProof.Rows.lex_irrefl _
    rw [e4, decide_eq_true rfl, Bool.false_or, Bool.true_and]
    by_cases hk : k = k'
    · subst hk
      rw [decide_eq_false (by omega)]
      exact PyProof.Rows.lex_irrefl _
    · rw [PySem.W.lex_atom (by simpa using hk)]
      simp [PyProof.Rows.lexLt, PyProof.Rows.itemLt]
  · have hne : (Sum.inr n.cps.toList : Int ⊕ List Nat) ≠ .inr n'.cps.toList := fun q => h (PySem.W.str_of_cps (by injection q))
    have e3 := PySem.W.lex_pre [.inl 1] (.inr n.cps.toList :: [.inl 1, .inl k, .inl 0]) (.inr n'.cps.toList :: [.inl 1, .inl k', .inl 0])
    simp only [List.cons_append, List.nil_append] at e3
    rw [e3, PySem.W.lex_atom hne, decide_eq_false h]
    simp
def keyOf (s : Sg) : List Key := [.inr s.1, .inl s.2]
def sgLt (a b : Sg) : Bool := strLt a.1 b.1 || (decide (a.1 = b.1) && decide (a.2 < b.2))
theorem leK_sg (a b : Sg) : MsT.leK (keyOf a) (keyOf b) = !sgLt b a := by
  have h := dataLt_sg b.1 a.1 b.2 a.2
  show (!PySem.W.dataLt (.tuple [.str b.1, .int b.2]) (.tuple [.str a.1, .int a.2])) = _
  rw [h]
  rfl
theorem keysOf_sg : ∀ l : List Sg, keysOf (l.map sgD) = some (l.map keyOf)
  | [] => rfl
  | s :: l => by
    rw [List.map_cons, keysOf, keysOf_sg l]
    rfl
theorem sorted_sg (l : List Sg) : ∃ ts : List Sg, MsT.sortK (l.map keyOf) = ts.map keyOf ∧ (∀ t, t ∈ ts ↔ t ∈ l) ∧ ts.Pairwise (fun a b => sgLt a b = true) ∧ ts.length ≤ l.length := by
  have kinj : ∀ a b : Sg, keyOf a = keyOf b → a = b := fun a b h => by
    obtain ⟨a1, a2⟩ := a
    obtain ⟨b1, b2⟩ := b
    simp [keyOf] at h
    rw [h.1, h.2]
  have mem : ∀ y ∈ MsT.sortK (l.map keyOf), ∃ a : Sg, a ∈ l ∧ y = keyOf a := fun y hy => by
    have h1 : y ∈ MsT.nub (l.map keyOf) := (List.mergeSort_perm _ _).mem_iff.mp hy
    obtain ⟨a, ha, rfl⟩ := List.mem_map.mp (MsT.mem_nub.mp h1)
    exact ⟨a, ha, rfl⟩
  have ch : ∀ ys : List (List Key), (∀ y ∈ ys, ∃ a : Sg, a ∈ l ∧ y = keyOf a) → ∃ ts : List Sg, ys = ts.map keyOf ∧ ∀ t ∈ ts, t ∈ l := fun ys => by
    induction ys with
    | nil => exact fun _ => ⟨[], rfl, by simp⟩
    | cons y ys ih =>
      intro h
      obtain ⟨a, ha, rfl⟩ := h y List.mem_cons_self
      obtain ⟨ts, rfl, ht⟩ := ih fun z hz => h z (List.mem_cons_of_mem _ hz)
      exact ⟨a :: ts, rfl, fun t q => (List.mem_cons.mp q).elim (fun e => e ▸ ha) (ht t)⟩
  obtain ⟨ts, e, ht⟩ := ch _ mem
  have T := PySem.W.sortLe_total (PyProof.Rows.listOrd PyProof.Rows.itemOrd) false (fun k : List Key => PySem.W.keyToks (.tuple (k.map MsT.keyP)))
  have pw : (MsT.sortK (l.map keyOf)).Pairwise (fun a b => MsT.leK a b = true) := List.pairwise_mergeSort (le := MsT.leK) (fun a b c => T.trans a b c) (fun a b => Bool.or_eq_true _ _ ▸ T.total a b) _
  have nd : (MsT.sortK (l.map keyOf)).Nodup := (List.mergeSort_perm _ _).nodup_iff.mpr (MsT.nodup_nub _)
  have hlen : (MsT.sortK (l.map keyOf)).length ≤ l.length := by
    have h1 : (MsT.sortK (l.map keyOf)).length = (MsT.nub (l.map keyOf)).length := (List.mergeSort_perm _ _).length_eq
    have h2 : ∀ ks : List (List Key), (MsT.nub ks).length ≤ ks.length := fun ks => by
      induction ks with
      | nil => exact Nat.le_refl _
      | cons k ks ih =>
        unfold MsT.nub
        split
        · simp; omega
        · simp; exact ih
    have h3 := h2 (l.map keyOf)
    rw [List.length_map] at h3
    omega
  rw [e] at pw nd hlen
  refine ⟨ts, e, fun t => ⟨ht t, fun h => ?_⟩, ?_, by simpa using hlen⟩
  · have h1 : keyOf t ∈ MsT.sortK (l.map keyOf) := (List.mergeSort_perm _ _).mem_iff.mpr (MsT.mem_nub.mpr (List.mem_map_of_mem h))
    rw [e] at h1
    obtain ⟨a, ha, q⟩ := List.mem_map.mp h1
    rw [← kinj _ _ q]
    exact ha
  · rw [List.pairwise_map] at pw
    have nd2 : ts.Pairwise (fun a b => a ≠ b) := (List.pairwise_map.mp nd).imp fun h z => h (by rw [z])
    refine (pw.and nd2).imp fun {a b} ⟨h1, h2⟩ => ?_
    cases hc : sgLt a b with
    | true => rfl
    | false =>
      have h3 : MsT.leK (keyOf b) (keyOf a) = true := by rw [leK_sg, hc]; rfl
      exact absurd (kinj _ _ (MsT.leK_anti h1 h3)) h2
/-! ### what spans of signs are like -/
def chn {α : Type} (R : α → α → Prop) : List α → Prop
  | a :: b :: r => R a b ∧ chn R (b :: r)
  | _ => True
theorem chn_app {α : Type} {R : α → α → Prop} {x y : α} : ∀ {l : List α}, chn R (l ++ [x]) → R x y → chn R (l ++ [x, y])
  | [], _, h => ⟨h, trivial⟩
  | [a], h, h2 => ⟨h.1, h2, trivial⟩
  | a :: b :: r, h, h2 => ⟨h.1, chn_app (l := b :: r) h.2 h2⟩
theorem chn_last {α : Type} {R : α → α → Prop} {x y : α} (hR : ∀ a, R a x → R a y) : ∀ {l : List α}, chn R (l ++ [x]) → chn R (l ++ [y])
  | [], _ => trivial
  | [a], h => ⟨hR a h.1, trivial⟩
  | a :: b :: r, h => ⟨h.1, chn_last (l := b :: r) hR h.2⟩
theorem chn_pw {α : Type} {R : α → α → Prop} : ∀ {l : List α}, l.Pairwise R → chn R l
  | [], _ => trivial
  | [_], _ => trivial
  | a :: b :: r, h => ⟨(List.pairwise_cons.mp h).1 b List.mem_cons_self, chn_pw (List.pairwise_cons.mp h).2⟩
def SpV (s : Sp) : Prop := nameB s.1 = true ∧ 0 ≤ s.2.1 ∧ s.2.1 < s.2.2 ∧ s.2.2 ≤ 1000000
def SgV (s : Sg) : Prop := nameB s.1 = true ∧ 0 ≤ s.2 ∧ s.2 < 1000000
theorem isSpan_sp {s : Sp} (h : SpV s) : isSpan (spD s) = true := span_mk h.1 h.2.1 h.2.2.1 h.2.2.2
theorem pgGo_v : ∀ (sg : List Sg) (ini : List Sp) (n : Str) (f e : Int), (∀ s ∈ ini, SpV s) → SpV (n, f, e) → (∀ s ∈ sg, SgV s) → ∀ s ∈ pgGo ini n f e sg, SpV s
  | [], ini, n, f, e, h1, h2, _, s, hs => (List.mem_append.mp hs).elim (h1 s) fun q => by rw [List.mem_singleton.mp q]; exact h2
  | (n', k) :: sg, ini, n, f, e, h1, h2, h3, s, hs => by
    have h4 := h3 _ List.mem_cons_self
    have h5 : ∀ s ∈ sg, SgV s := fun s q => h3 s (List.mem_cons_of_mem _ q)
    unfold pgGo at hs
    split at hs
    · rename_i hc
      obtain ⟨rfl, rfl⟩ := hc
      exact pgGo_v sg ini n f (e + 1) h1 ⟨h2.1, h2.2.1, by have := h2.2.2.1; show f < e + 1; simp at this; omega, by have := h4.2.2; show e + 1 ≤ 1000000; simp at this; omega⟩ h5 s hs
    · exact pgGo_v sg _ n' k (k + 1) (fun s q => (List.mem_append.mp q).elim (h1 s) fun q => by rw [List.mem_singleton.mp q]; exact h2) ⟨h4.1, h4.2.1, by show k < k + 1; omega, by have := h4.2.2; show k + 1 ≤ 1000000; simp at this; omega⟩ h5 s hs
theorem pgOf_v {sg : List Sg} (h : ∀ s ∈ sg, SgV s) : ∀ s ∈ pgOf sg, SpV s := by
  cases sg with
  | nil => simp [pgOf]
  | cons a sg =>
    obtain ⟨n, k⟩ := a
    have h4 := h _ List.mem_cons_self
    exact pgGo_v sg [] n k (k + 1) (by simp) ⟨h4.1, h4.2.1, by show k < k + 1; omega, by have := h4.2.2; show k + 1 ≤ 1000000; simp at this; omega⟩ fun s q => h s (List.mem_cons_of_mem _ q)
theorem pgGo_len : ∀ (sg : List Sg) (ini : List Sp) (n : Str) (f e : Int), (pgGo ini n f e sg).length ≤ ini.length + 1 + sg.length
  | [], ini, n, f, e => by simp [pgGo]
  | (n', k) :: sg, ini, n, f, e => by
    unfold pgGo
    split
    · have := pgGo_len sg ini n f (k + 1)
      simp
      omega
    · have := pgGo_len sg (ini ++ [(n, f, e)]) n' k (k + 1)
      simp at this ⊢
      omega
theorem pgOf_len (sg : List Sg) : (pgOf sg).length ≤ sg.length := by
  cases sg with
  | nil => simp [pgOf]
  | cons a sg =>
    obtain ⟨n, k⟩ := a
    have := pgGo_len sg [] n k (k + 1)
    simp [pgOf] at this ⊢
    omega
theorem pgGo_ne (sg : List Sg) : ∀ (ini : List Sp) (n : Str) (f e : Int), pgGo ini n f e sg ≠ [] := by
  induction sg with
  | nil => intro ini n f e; simp [pgGo]
  | cons a sg ih =>
    obtain ⟨n', k⟩ := a
    intro ini n f e
    unfold pgGo
    split
    · exact ih _ _ _ _
    · exact ih _ _ _ _
/-- neighbours don't go on -/
def Rgo (a b : Sp) : Prop := ¬ (a.1 = b.1 ∧ a.2.2 = b.2.1)
theorem pgGo_go : ∀ (sg : List Sg) (ini : List Sp) (n : Str) (f e : Int), chn Rgo (ini ++ [(n, f, e)]) → chn Rgo (pgGo ini n f e sg)
  | [], ini, n, f, e, h => h
  | (n', k) :: sg, ini, n, f, e, h => by
    unfold pgGo
    split
    · exact pgGo_go sg ini n f (k + 1) (chn_last (x := (n, f, e)) (y := (n, f, k + 1)) (fun a q => q) h)
    · rename_i hc
      refine pgGo_go sg (ini ++ [(n, f, e)]) n' k (k + 1) ?_
      rw [List.append_assoc]
      exact chn_app h hc
theorem pgOf_go (sg : List Sg) : chn Rgo (pgOf sg) := by
  cases sg with
  | nil => trivial
  | cons a sg => exact pgGo_go sg [] a.1 a.2 (a.2 + 1) trivial
/-- .. stand apart, where the signs rise -/
def Rap (a b : Sp) : Prop := strLt a.1 b.1 = true ∨ (a.1 = b.1 ∧ a.2.2 < b.2.1)
theorem pgGo_ap : ∀ (sg : List Sg) (ini : List Sp) (n : Str) (f e : Int), chn Rap (ini ++ [(n, f, e)]) → chn (fun a b => sgLt a b = true) ((n, e - 1) :: sg) → chn Rap (pgGo ini n f e sg)
  | [], ini, n, f, e, h, _ => h
  | (n', k) :: sg, ini, n, f, e, h, hs => by
    obtain ⟨h1, h2⟩ := hs
    have e9 : k + 1 - 1 = k := by omega
    unfold pgGo
    split
    · rename_i hc
      obtain ⟨rfl, rfl⟩ := hc
      exact pgGo_ap sg ini n f (e + 1) (chn_last (x := (n, f, e)) (y := (n, f, e + 1)) (fun a q => q) h) (by rw [show e + 1 - 1 = e by omega]; exact h2)
    · rename_i hc
      refine pgGo_ap sg (ini ++ [(n, f, e)]) n' k (k + 1) ?_ (by rw [e9]; exact h2)
      rw [List.append_assoc]
      refine chn_app h ?_
      unfold sgLt at h1
      simp at h1
      rcases h1 with h1 | ⟨h1, h3⟩
      · exact .inl h1
      · refine .inr ⟨h1, ?_⟩
        have : ¬ e = k := fun q => hc ⟨h1, q⟩
        show e < k
        omega
theorem pgOf_ap {sg : List Sg} (h : sg.Pairwise fun a b => sgLt a b = true) : chn Rap (pgOf sg) := by
  have hc := chn_pw h
  cases sg with
  | nil => trivial
  | cons a sg =>
    refine pgGo_ap sg [] a.1 a.2 (a.2 + 1) trivial ?_
    rw [show a.2 + 1 - 1 = a.2 by omega]
    exact hc
/-! ### spans one behind another -/
def run (n : Str) (k : Int) : Nat → List Sg
  | 0 => []
  | m + 1 => (n, k) :: run n (k + 1) m
theorem sgsOf_run (s : Sp) : sgsOf s = run s.1 s.2.1 (s.2.2 - s.2.1).toNat := by
  unfold sgsOf
  generalize (s.2.2 - s.2.1).toNat = m
  generalize s.1 = n
  generalize s.2.1 = k
  induction m generalizing k with
  | zero => rfl
  | succ m ih =>
    rw [List.range_succ_eq_map, List.map_cons, List.map_map, run, ← ih (k + 1)]
    congr 1
    · simp
    · refine List.map_congr_left fun i _ => ?_
      show (n, k + ((i + 1 : Nat) : Int)) = (n, k + 1 + (i : Int))
      congr 1
      omega
theorem pgGo_run (n : Str) (f : Int) (rest : List Sg) : ∀ (m : Nat) (ini : List Sp) (e : Int), pgGo ini n f e (run n e m ++ rest) = pgGo ini n f (e + m) rest
  | 0, ini, e => by simp [run]
  | m + 1, ini, e => by
    show pgGo ini n f e ((n, e) :: (run n (e + 1) m ++ rest)) = _
    rw [pgGo, if_pos ⟨rfl, rfl⟩, pgGo_run n f rest m ini (e + 1)]
    congr 1
    omega
theorem pgGo_spans : ∀ (ss : List Sp) (ini : List Sp) (n : Str) (f e : Int), (∀ s ∈ ss, s.2.1 < s.2.2) → (pgGo ini n f e (ss.flatMap sgsOf)).length ≤ ini.length + 1 + ss.length
  | [], ini, n, f, e, _ => by simp [pgGo]
  | s :: ss, ini, n, f, e, h => by
    have h1 := h s List.mem_cons_self
    have h2 : ∀ s ∈ ss, s.2.1 < s.2.2 := fun t q => h t (List.mem_cons_of_mem _ q)
    obtain ⟨m, hm⟩ : ∃ m, (s.2.2 - s.2.1).toNat = m + 1 := ⟨(s.2.2 - s.2.1).toNat - 1, by omega⟩
    rw [List.flatMap_cons, sgsOf_run, hm]
    show (pgGo ini n f e ((s.1, s.2.1) :: (run s.1 (s.2.1 + 1) m ++ _))).length ≤ _
    rw [pgGo]
    split
    · rename_i hc
      obtain ⟨rfl, rfl⟩ := hc
      rw [pgGo_run]
      have := pgGo_spans ss ini s.1 f (s.2.1 + 1 + m) h2
      simp
      omega
    · rw [pgGo_run]
      have := pgGo_spans ss (ini ++ [(n, f, e)]) s.1 s.2.1 (s.2.1 + 1 + m) h2
      simp at this ⊢
      omega
theorem pgOf_spans {ss : List Sp} (h : ∀ s ∈ ss, s.2.1 < s.2.2) : (pgOf (ss.flatMap sgsOf)).length ≤ ss.length := by
  cases ss with
  | nil => simp [pgOf]
  | cons s ss =>
    have h1 := h s List.mem_cons_self
    obtain ⟨m, hm⟩ : ∃ m, (s.2.2 - s.2.1).toNat = m + 1 := ⟨(s.2.2 - s.2.1).toNat - 1, by omega⟩
    rw [List.flatMap_cons, sgsOf_run, hm]
    show (pgGo [] s.1 s.2.1 (s.2.1 + 1) (run s.1 (s.2.1 + 1) m ++ _)).length ≤ _
    rw [pgGo_run]
    have := pgGo_spans ss [] s.1 s.2.1 (s.2.1 + 1 + m) fun t q => h t (List.mem_cons_of_mem _ q)
    simp at this ⊢
    omega
theorem sgs_v {ss : List Sp} (h : ∀ s ∈ ss, SpOk s) : ∀ s ∈ ss.flatMap sgsOf, SgV s := fun t ht => by
  obtain ⟨s, hs, q⟩ := List.mem_flatMap.mp ht
  unfold sgsOf at q
  obtain ⟨i, hi, rfl⟩ := List.mem_map.mp q
  obtain ⟨h1, h2, h3, h4, _⟩ := h s hs
  have := List.mem_range.mp hi
  exact ⟨h1, by show 0 ≤ s.2.1 + (i : Int); omega, by show s.2.1 + (i : Int) < 1000000; omega⟩
theorem sgs_length {ss : List Sp} (h : ∀ s ∈ ss, SpOk s) : (ss.flatMap sgsOf).length ≤ 12 * ss.length := by
  induction ss with
  | nil => simp
  | cons s ss ih =>
    have h1 := (h s List.mem_cons_self).2.2.2.2
    have := ih fun t q => h t (List.mem_cons_of_mem _ q)
    rw [List.flatMap_cons, List.length_append, sgs_len, List.length_cons]
    omega
/-! ### .. asked by the program -/
theorem adj_chn {R : Sp → Sp → Prop} {p : D → D → Bool} : ∀ {l : List Sp}, (∀ a b, R a b → p (spD a) (spD b) = true) → chn R l → (adj p (l.map spD)).all id = true
  | [], _, _ => rfl
  | [_], _, _ => rfl
  | a :: b :: r, h, hc => by
    have ih := adj_chn (l := b :: r) h hc.2
    unfold adj at ih ⊢
    simp only [List.map_cons, List.drop_succ_cons, List.drop_zero, List.zip_cons_cons, List.all_cons, id] at ih ⊢
    rw [h a b hc.1, ih]
    rfl
theorem adj_chn_not {R : Sp → Sp → Prop} {p : D → D → Bool} : ∀ {l : List Sp}, (∀ a b, R a b → p (spD a) (spD b) = false) → chn R l → (adj p (l.map spD)).any id = false
  | [], _, _ => rfl
  | [_], _, _ => rfl
  | a :: b :: r, h, hc => by
    have ih := adj_chn_not (l := b :: r) h hc.2
    unfold adj at ih ⊢
    simp only [List.map_cons, List.drop_succ_cons, List.drop_zero, List.zip_cons_cons, List.any_cons, id] at ih ⊢
    rw [h a b hc.1, ih]
    rfl
theorem all_span {l : List Sp} (h : ∀ s ∈ l, SpV s) : (l.map spD).all isSpan = true := by
  rw [List.all_eq_true]
  intro d hd
  obtain ⟨s, hs, rfl⟩ := List.mem_map.mp hd
  exact isSpan_sp (h s hs)
theorem isEnds_of {l : List Sp} (h1 : ∀ s ∈ l, SpV s) (h2 : chn Rap l) (h3 : l.length ≤ 60) : isEnds (.tup (l.map spD)) = true := by
  show (decide ((l.map spD).length ≤ 60) && ((l.map spD).all isSpan && (adj apart (l.map spD)).all id)) = true
  rw [all_span h1, adj_chn (R := Rap) ?_ h2, List.length_map, decide_eq_true h3]
  · rfl
  · rintro ⟨n, f, e⟩ ⟨n', f', e'⟩ h
    show (strLt n n' || (decide (n = n') && decide (e < f'))) = true
    rcases h with h | ⟨h, h'⟩
    · have h : strLt n n' = true := h
      rw [h]; rfl
    · have h : n = n' := h
      have h' : e < f' := h'
      rw [decide_eq_true h, decide_eq_true h']
      simp
theorem isPage_of {l : List Sp} (h1 : ∀ s ∈ l, SpV s) (h2 : chn Rgo l) (h3 : l.length ≤ 60) (h4 : longD (l.map spD) ≤ 2000) : isPage (.tup (l.map spD)) = true := by
  show (decide ((l.map spD).length ≤ 60) && ((l.map spD).all isSpan && (decide (longD (l.map spD) ≤ 2000) && !(adj goOn (l.map spD)).any id))) = true
  rw [all_span h1, adj_chn_not (R := Rgo) ?_ h2, List.length_map, decide_eq_true h3, decide_eq_true h4]
  · rfl
  · rintro ⟨n, f, e⟩ ⟨n', f', e'⟩ h
    show (decide (n = n') && decide (e = f')) = false
    by_cases q : n = n'
    · have : ¬ e = f' := fun z => h ⟨q, z⟩
      simp [this]
    · simp [q]
theorem pgGo_long : ∀ (sg : List Sg) (ini : List Sp) (n : Str) (f e : Int), longD ((pgGo ini n f e sg).map spD) = longD ((ini ++ [(n, f, e)]).map spD) + sg.length
  | [], ini, n, f, e => by simp [pgGo]
  | (n', k) :: sg, ini, n, f, e => by
    have lg : ∀ (l : List Sp) (s : Sp), longD ((l ++ [s]).map spD) = longD (l.map spD) + (s.2.2 - s.2.1) := fun l s => by
      unfold longD
      simp [spD, spLen]
    unfold pgGo
    split
    · rename_i hc
      obtain ⟨rfl, rfl⟩ := hc
      rw [pgGo_long sg ini n f (e + 1), lg, lg]
      simp
      omega
    · rw [pgGo_long sg (ini ++ [(n, f, e)]) n' k (k + 1), lg]
      simp
      omega
theorem pgOf_long (sg : List Sg) : longD ((pgOf sg).map spD) = sg.length := by
  cases sg with
  | nil => rfl
  | cons a sg =>
    show longD ((pgGo [] a.1 a.2 (a.2 + 1) sg).map spD) = _
    rw [pgGo_long]
    simp [longD, spD, spLen]
    omega
end Pw
namespace Pw
open PySem PySem.Spec PyProof.Rows L2 Ms SX
theorem cutS_to (l : List Nat) (a b : Nat) : cutS (S l) (some (a : Int)) (some (b : Int)) = S ((l.drop a).take (b - a)) := by
  unfold cutS
  rw [S_len, HT.sIx_nat, HT.sIx_nat]
  congr 1
  show ((l.drop _).take _).toArray = _
  by_cases h : a ≤ l.length
  · rw [Nat.min_eq_left h]
    by_cases h2 : b ≤ l.length
    · rw [Nat.min_eq_left h2]
    · rw [Nat.min_eq_right (by omega), List.take_of_length_le (by rw [List.length_drop]; omega), List.take_of_length_le (l := l.drop a) (by rw [List.length_drop]; omega)]
  · rw [Nat.min_eq_right (a := a) (by omega), List.drop_length, List.drop_eq_nil_of_le (by omega)]
    simp
/-! ### pages of the law -/
theorem lpage_loop {n g : Nat} {mo : Int} (hg : g < n) : ∀ (ds : List D) (ss : List Sp) (G : List MO) (x3 : Slot), OkN n G → (∀ s ∈ ss, SpOk s) → ss.length + ds.length ≤ 1000 →
    ∃ (ss' : List Sp) (G' : List MO) (y3 : Slot), M.forL (.one 3) l__law_page_0 ds ⟨[.val (.ref g), .val (.int mo), .val (.lst ((ss.flatMap sgsOf).map sgD)), x3], G⟩ = .ok .nx ⟨[.val (.ref g), .val (.int mo), .val (.lst ((ss'.flatMap sgsOf).map sgD)), y3], G'⟩ ∧ OkN n G' ∧ (∀ s ∈ ss', SpOk s) ∧ ss'.length = ss.length + ds.length
  | [], ss, G, x3, hG, hs, _ => ⟨ss, G, x3, rfl, hG, hs, rfl⟩
  | d :: ds, ss, G, x3, hG, hs, hl => by
    simp only [List.length_cons] at hl
    obtain ⟨s, G1, e1, hs1, o1⟩ := span_ok hG hg
    have e2 := signs_ok (ss := [s]) G1 (by simpa using hs1) (by simp)
    have hall : ∀ t ∈ ss ++ [s], SpOk t := fun t q => (List.mem_append.mp q).elim (hs t) fun q => by rw [List.mem_singleton.mp q]; exact hs1
    obtain ⟨ss', G', y3, e3, o3, h3, l3⟩ := lpage_loop (mo := mo) hg ds (ss ++ [s]) G1 (.val d) o1 hall (by simp; omega)
    have hlen := sgs_length hs
    have hlen2 := sgs_length (ss := [s]) (by simpa using hs1)
    have hln : lenOk ((ss.flatMap sgsOf).map sgD ++ ([s].flatMap sgsOf).map sgD).length = true := lenOk_of (by rw [List.length_append, List.length_map, List.length_map]; simp only [List.length_singleton] at hlen2; omega)
    rw [List.length_append] at hln
    have hj : (ss.flatMap sgsOf).map sgD ++ ([s].flatMap sgsOf).map sgD = ((ss ++ [s]).flatMap sgsOf).map sgD := by rw [List.flatMap_append, List.map_append]
    refine ⟨ss', G', y3, ?_, o3, h3, by rw [l3, List.length_append, List.length_singleton, List.length_cons]; omega⟩
    have e2' : m__law_signs [.lst [spD s]] G1 = .ok (.lst (([s].flatMap sgsOf).map sgD)) G1 := e2
    rw [← e3, ← hj]
    generalize (ss.flatMap sgsOf).map sgD = A at *
    generalize ([s].flatMap sgsOf).map sgD = B at *
    have isOwn_sp : (spD s).isOwn = false := rfl
    have ok : ∀ (k : D → Sta → Out (List D)) (st : Sta), outK k (spD s) st = k (spD s) st := fun _ _ => outK_no isOwn_sp
    have step : ∀ ds, M.forL (.one 3) l__law_page_0 (d :: ds) ⟨[.val (.ref g), .val (.int mo), .val (.lst A), x3], G⟩ = M.forL (.one 3) l__law_page_0 ds ⟨[.val (.ref g), .val (.int mo), .val (.lst (A ++ B)), .val d], G1⟩ := fun ds => by
      simp [e_forL, l__law_page_0, e1, e2', show lenOk 1 = true from rfl, ok, hln]
    rw [step]
theorem rng_ok {r : Int} {k : Nat} (h : r = k) (hk : k ≤ 1000000) : ∀ s, rng1K [.int r] s = .ok (rngD 0 k) s := fun s => by
  subst h
  rw [rng1K_int, if_pos (by omega)]
  rfl
/-- a page of few spans -/
structure PgOk (m : Nat) (l : List Sp) : Prop where
  v : ∀ s ∈ l, SpV s
  go : chn Rgo l
  len : l.length ≤ m
  long : longD (l.map spD) ≤ 12 * m
theorem lpage_ok {n g : Nat} {G : List MO} (m : Nat) (mo mp : Int) (hmo : mo = m) (hmp : mo + 1 = mp) (hm : m ≤ 100) (hG : OkN n G) (hg : g < n) : ∃ (l : List Sp) (G' : List MO), m__law_page [.ref g, .int mo] G = .ok (.tup (l.map spD)) G' ∧ PgOk m l ∧ OkN n G' := by
  obtain ⟨r, G1, e1, a1, b1, o1⟩ := take mp hG hg (by omega) (Int.lt_trans (b := 2 ^ 20) (by omega) (by decide))
  obtain ⟨k, hk⟩ := Int.eq_ofNat_of_zero_le a1
  obtain ⟨ss, G2, y3, e2, o2, h2, l2⟩ := lpage_loop (mo := mo) hg (rngD 0 k) [] G1 .no o1 (by simp) (by rw [rngD_len]; simp; omega)
  rw [rngD_len] at l2
  simp at l2
  have hlen := sgs_length h2
  have e3 := page_of_ok (sg := ss.flatMap sgsOf) G2 (fun s hs => (sgs_v h2 s hs).1) (by omega)
  have h4 := pgOf_spans (ss := ss) fun s hs => (h2 s hs).2.2.1
  refine ⟨pgOf (ss.flatMap sgsOf), G2, ?_, ⟨pgOf_v (sgs_v h2), pgOf_go _, by omega, by rw [pgOf_long]; omega⟩, o2⟩
  have hr2 := rng_ok hk (by omega)
  simp at e2
  simp [m__law_page, b__law_page, hmp, e1, -rng1K_int, hr2, e2, e3, show lenOk 0 = true from rfl]
theorem some_spans_ok {n g : Nat} {G : List MO} (m : Nat) (mo mp : Int) (hmo : mo = m) (hmp : mo + 1 = mp) (hm : m ≤ 100) (hG : OkN n G) (hg : g < n) : ∃ (ss : List Sp) (G' : List MO), m__law_some_spans [.ref g, .int mo] G = .ok (.lst (ss.map spD)) G' ∧ (∀ s ∈ ss, SpOk s) ∧ ss.length ≤ m ∧ OkN n G' := by
  obtain ⟨r, G1, e1, a1, b1, o1⟩ := take mp hG hg (by omega) (Int.lt_trans (b := 2 ^ 20) (by omega) (by decide))
  obtain ⟨k, hk⟩ := Int.eq_ofNat_of_zero_le a1
  have hr2 := rng_ok hk (by omega)
  obtain ⟨ys, G2, e2, l2, p2, o2⟩ := comp_inv (vs := [2]) (mi := M.range1 [M.call m__law_take [M.var 0, M.op2 fAdd (M.var 1) (M.lit (.int 1))]]) (t := .one 2) (e := M.call m__law_span [M.var 0]) (s := ⟨[.val (.ref g), .val (.int mo), .no], G⟩) (s1 := ⟨[.val (.ref g), .val (.int mo), .no], G1⟩)
    (ρ := [.val (.ref g), .val (.int mo), .no]) (G := G1) (I := OkN n) (P := fun y => ∃ s, SpOk s ∧ y = spD s) (ds := rngD 0 k) (by simp [hmp, e1, -rng1K_int, hr2]) (lenOk_of (by rw [rngD_len]; omega)) rfl o1 fun d _ G hG => by
      obtain ⟨s, G', e, hs, o⟩ := span_ok hG hg
      exact ⟨spD s, G', ⟨[.val (.ref g), .val (.int mo), .val d], G⟩, ⟨[.val (.ref g), .val (.int mo), .val d], G'⟩, rfl, by simp [e], rfl, rfl, ⟨s, hs, rfl⟩, o⟩
  obtain ⟨ss, rfl, hs⟩ := choose_list p2
  rw [List.length_map, rngD_len] at l2
  refine ⟨ss, G2, ?_, hs, by omega, o2⟩
  have e3 : c__law_some_spans_0 ⟨[.val (.ref g), .val (.int mo), .no], G⟩ = .ok (ss.map spD) ⟨[.val (.ref g), .val (.int mo), .no], G2⟩ := e2
  simp [m__law_some_spans, b__law_some_spans, e3]
theorem alike_sg (a b : Sg) : PySem.W.alike (.tuple ((keyOf a).map MsT.keyP)) (.tuple ((keyOf b).map MsT.keyP)) = true := by
  simp [keyOf, MsT.keyP, PySem.W.alike, PySem.W.alikeAll]
theorem okK_sg {l : List Sg} (h : l.length < 64) : okK (l.map keyOf) = true := by
  unfold okK
  rw [Bool.and_eq_true, decide_eq_true_eq, List.all_eq_true, List.length_map]
  refine ⟨h, fun k hk => ?_⟩
  obtain ⟨a, _, rfl⟩ := List.mem_map.mp hk
  rw [Bool.and_eq_true, Bool.and_eq_true, List.all_eq_true]
  refine ⟨⟨rfl, by simp [keyOf, MsT.keyP, PyData.depth, PyData.depthAll]⟩, fun q hq => ?_⟩
  obtain ⟨b, _, rfl⟩ := List.mem_map.mp hq
  exact alike_sg a b
theorem sortSet_ok {l ts : List Sg} (s : Sta) (h : l.length < 64) (e : MsT.sortK (l.map keyOf) = ts.map keyOf) : sortSetD s (.lst (l.map sgD)) = some (.lst (ts.map sgD)) := by
  unfold sortSetD
  rw [seqL_lst]
  show ((keysOf (l.map sgD)).bind _) = _
  rw [keysOf_sg]
  show (if okK (l.map keyOf) = true then some (D.lst ((MsT.sortK (l.map keyOf)).map fun k => .tup (k.map keyD))) else none) = _
  rw [if_pos (okK_sg h), e, List.map_map]
  rfl
@[simp] theorem e_sortSet (m : M D) (s : Sta) : M.sortSet m s = (m s).andThen fun d s => oOut (sortSetD s d) s := by
  unfold M.sortSet
  rw [e_bind]
  first
    | (refine aext ?_; intro d s)
    | (congr 1; funext d s)
  exact e_look _ s
/-- ends -/
structure EnOk (l : List Sp) : Prop where
  v : ∀ s ∈ l, SpV s
  ap : chn Rap l
  len : l.length ≤ 36
  ne : l ≠ []
theorem ends_of_ok {l : List Sg} (G : List MO) (h : l.length < 64) (hv : ∀ s ∈ l, SgV s) : ∃ ts : List Sg, m__law_ends_of [.lst (l.map sgD)] G = .ok (.tup ((pgOf ts).map spD)) G ∧ (∀ s ∈ pgOf ts, SpV s) ∧ chn Rap (pgOf ts) ∧ (pgOf ts).length ≤ l.length := by
  obtain ⟨ts, e, hm, pw, hl⟩ := sorted_sg l
  have hv2 : ∀ s ∈ ts, SgV s := fun s q => hv s ((hm s).mp q)
  have e1 := fun s => sortSet_ok s h e
  have e2 := page_of_ok (sg := ts) G (fun s q => (hv2 s q).1) (by omega)
  refine ⟨ts, by simp [m__law_ends_of, b__law_ends_of, e1, e2], pgOf_v hv2, pgOf_ap pw, Nat.le_trans (pgOf_len ts) hl⟩
theorem okN_spds {l : List Sp} (h : ∀ s ∈ l, SpV s) : okN 2 (.tup (l.map spD)) = true := okN_tup fun d hd => by
  obtain ⟨s, hs, rfl⟩ := List.mem_map.mp hd
  exact okN_spD (h s hs).1
theorem some_ends_ok {n g : Nat} {G : List MO} (hG : OkN n G) (hg : g < n) : ∃ (l : List Sp) (G' : List MO), m__law_some_ends [.ref g] G = .ok (.tup (l.map spD)) G' ∧ EnOk l ∧ OkN n G' := by
  obtain ⟨ss, G1, e1, h1, l1, o1⟩ := some_spans_ok 3 3 4 rfl rfl (by omega) hG hg
  have hlen := sgs_length h1
  have e2 := signs_ok G1 h1 (by omega)
  obtain ⟨ts, e3, v3, p3, l3⟩ := ends_of_ok (l := ss.flatMap sgsOf) G1 (by omega) (sgs_v h1)
  have eq0 := fun s => eqD_tup0 s (okN_spds v3) (by omega)
  by_cases h0 : pgOf ts = []
  · refine ⟨[(Str.ofString "ann", 0, 3)], G1, ?_, ⟨?_, trivial, by simp, by simp⟩, o1⟩
    · rw [h0] at e3 eq0
      simp at e1 e2 e3 eq0
      simp [m__law_some_ends, b__law_some_ends, e1, e2, e3, eq0, lenOk, spD]
    · intro s hs
      rw [List.mem_singleton.mp hs]
      exact ⟨ann_nm, by decide, by decide, by decide⟩
  · refine ⟨pgOf ts, G1, ?_, ⟨v3, p3, by omega, h0⟩, o1⟩
    have h5 : ((pgOf ts).map spD).isEmpty = false := by
      cases e : pgOf ts with
      | nil => exact absurd e h0
      | cons a l => rfl
    simp only [h5] at eq0
    have e1' : m__law_some_spans [.ref g, .int 3] G = .ok (.lst (ss.map spD)) G1 := e1
    generalize (pgOf ts).map spD = L at *
    generalize ss.map spD = L2 at *
    generalize (ss.flatMap sgsOf).map sgD = L3 at *
    simp [m__law_some_ends, b__law_some_ends, e1', e2, e3, eq0, lenOk]
/-! ### ids -/
def NmA (x : Str) : Prop := x = Str.ofString "ann" ∨ x = Str.ofString "bo" ∨ x = Str.ofString "cy"
theorem NmA.nm {x : Str} (h : NmA x) : nameB x = true := by
  rcases h with rfl | rfl | rfl
  · exact ann_nm
  · exact bo_nm
  · exact cy_nm
def IdOk (s : Sg) : Prop := NmA s.1 ∧ 0 ≤ s.2 ∧ s.2 ≤ 999999
theorem id_ok {n g : Nat} {G : List MO} (hG : OkN n G) (hg : g < n) : ∃ (s : Sg) (G' : List MO), m__law_id [.ref g] G = .ok (sgD s) G' ∧ IdOk s ∧ OkN n G' := by
  obtain ⟨d, G1, e1, hd, o1⟩ := of_lst [.str (Str.ofString "ann"), .str (Str.ofString "bo"), .str (Str.ofString "cy")] hG hg (by simp) (by simp) (fun d hd => by
    simp at hd
    rcases hd with rfl | rfl | rfl
    · exact nm_len ann_nm
    · exact nm_len bo_nm
    · exact nm_len cy_nm)
  obtain ⟨y, rfl, hy⟩ : ∃ y, d = .str y ∧ NmA y := by
    simp at hd
    rcases hd with rfl | rfl | rfl
    · exact ⟨_, rfl, .inl rfl⟩
    · exact ⟨_, rfl, .inr (.inl rfl)⟩
    · exact ⟨_, rfl, .inr (.inr rfl)⟩
  obtain ⟨r2, G2, e2, a2, b2, o2⟩ := take 4 o1 hg (by omega) (by decide)
  obtain ⟨r3, G3, e3, a3, b3, o3⟩ := take 10 o2 hg (by omega) (by decide)
  obtain ⟨r4, G4, e4, a4, b4, o4⟩ := take 7 o3 hg (by omega) (by decide)
  have d1 : gDiv r4 3 = some (.int (r4 / 3)) := gDiv_e (by omega) (by decide)
  obtain ⟨k, hk, k1, k2⟩ : ∃ k : Int, atI [D.int r2, .int r3, .int 999999] (r4 / 3) = some (.int k) ∧ 0 ≤ k ∧ k ≤ 999999 := by
    have : r4 / 3 = 0 ∨ r4 / 3 = 1 ∨ r4 / 3 = 2 := by omega
    rcases this with h | h | h <;> rw [h]
    · exact ⟨r2, by simp, by omega, by omega⟩
    · exact ⟨r3, by simp, by omega, by omega⟩
    · exact ⟨999999, by simp, by omega, by omega⟩
  refine ⟨(y, k), G4, ?_, ⟨hy, k1, k2⟩, o4⟩
  simp [m__law_id, b__law_id, e1, e2, e3, e4, d1, hk, lenOk, sgD]
end Pw
namespace Pw
open PySem PySem.Spec PyProof.Rows L2 Ms SX
/-! ### texts -/
def txtS : Str := " abcdefghijklmnop!#$&'()*+,-./019:;<=>?@AZ[]^_{|}~"
theorem txt_sign : txtS.cps.toList.all signOk = true := by decide +kernel
theorem txt_len : txtS.length = 50 := by decide +kernel
theorem ltext_ok {n g : Nat} {G : List MO} (m : Nat) (mo : Int) (hmo : mo = m) (hm0 : 0 < m) (hm : m ≤ 100) (hG : OkN n G) (hg : g < n) : ∃ (zs : List Nat) (G' : List MO), m__law_text [.ref g, .int mo] G = .ok (.str (S zs)) G' ∧ 1 ≤ zs.length ∧ zs.length ≤ m ∧ (∀ c ∈ zs, signOk c = true) ∧ OkN n G' := by
  obtain ⟨r, G1, e1, a1, b1, o1⟩ := take mo hG hg (by omega) (Int.lt_trans (b := 2 ^ 20) (by omega) (by decide))
  obtain ⟨k, hk⟩ : ∃ k : Nat, 1 + r = k := ⟨(1 + r).toNat, by omega⟩
  have hr2 := rng_ok hk (by omega)
  obtain ⟨ys, G2, e2, l2, p2, o2⟩ := comp_inv (vs := [3]) (mi := M.range1 [M.op2 fAdd (M.lit (.int 1)) (M.call m__law_take [M.var 0, M.var 1])]) (t := .one 3) (e := M.call m__law_of [M.var 0, M.var 2]) (s := ⟨[.val (.ref g), .val (.int mo), .val (.str txtS), .no], G⟩) (s1 := ⟨[.val (.ref g), .val (.int mo), .val (.str txtS), .no], G1⟩)
    (ρ := [.val (.ref g), .val (.int mo), .val (.str txtS), .no]) (G := G1) (I := OkN n) (P := fun y => ∃ c, c ∈ txtS.cps.toList ∧ y = .str (S [c])) (ds := rngD 0 k) (by simp [e1, -rng1K_int, hr2]) (lenOk_of (by rw [rngD_len]; omega)) rfl o1 fun d _ G hG => by
      obtain ⟨c, G', e, hc, o⟩ := of_str txtS hG hg (by rw [txt_len]; omega) (by rw [txt_len]; omega)
      exact ⟨.str (S [c]), G', ⟨[.val (.ref g), .val (.int mo), .val (.str txtS), .val d], G⟩, ⟨[.val (.ref g), .val (.int mo), .val (.str txtS), .val d], G'⟩, rfl, by simp [e], rfl, rfl, ⟨c, hc, rfl⟩, o⟩
  obtain ⟨zs, rfl, hz⟩ := choose_list p2
  rw [List.length_map, rngD_len] at l2
  have hj := fun s => join_signs s zs (by omega)
  refine ⟨zs, G2, ?_, by omega, by omega, fun c hc => List.all_eq_true.mp txt_sign c (hz c hc), o2⟩
  have e3 : c__law_text_0 ⟨[.val (.ref g), .val (.int mo), .val (.str txtS), .no], G⟩ = .ok (zs.map fun c => .str (S [c])) ⟨[.val (.ref g), .val (.int mo), .val (.str txtS), .no], G2⟩ := e2
  have e4 : (Str.ofString " abcdefghijklmnop!#$&'()*+,-./019:;<=>?@AZ[]^_{|}~") = txtS := rfl
  simp [m__law_text, b__law_text, e4, e3, s_nul, hj]
/-! ### records -/
inductive Rec where
  | pour (n : Str) (f : Int) (t : List Nat)
  | page (w n : Str) (k : Int) (ps : List Sg) (pg : List Sp)
  | link (n : Str) (k : Int) (kd : Str) (a b : List Sp)
  | off (n : Str) (k : Int)
def recD : Rec → D
  | .pour n f t => .tup [.str (S pourL), .str n, .int f, .str (S t)]
  | .page w n k ps pg => .tup [.str (S pageL), .str w, .str n, .int k, .tup (ps.map sgD), .tup (pg.map spD)]
  | .link n k kd a b => .tup [.str (S linkL), .str n, .int k, .str kd, .tup (a.map spD), .tup (b.map spD)]
  | .off n k => .tup [.str (S offL), .str n, .int k]
def RecOk : Rec → Prop
  | .pour n f t => nameB n = true ∧ 0 ≤ f ∧ f + t.length ≤ 1000000 ∧ f ≤ 999999 ∧ 1 ≤ t.length ∧ t.length ≤ 60 ∧ ∀ c ∈ t, signOk c = true
  | .page w n k ps pg => nameB w = true ∧ nameB n = true ∧ 0 ≤ k ∧ k ≤ 999999 ∧ ps.length ≤ 2 ∧ (∀ s ∈ ps, IdOk s) ∧ ps.Pairwise (fun a b => sgLt a b = true) ∧ PgOk 3 pg
  | .link n k kd a b => nameB n = true ∧ 0 ≤ k ∧ k ≤ 999999 ∧ nameB kd = true ∧ EnOk a ∧ EnOk b
  | .off n k => nameB n = true ∧ 0 ≤ k ∧ k ≤ 999999
def lettL : List Nat := (Str.ofString "the quick brown fox jumps over a lazy dog and then sleeps").cps.toList
def poolL (k : Nat) : List Nat := lettL.drop k ++ lettL.take k
theorem pool_ann (G : List MO) : m__law_pool [.str (Str.ofString "ann")] G = .ok (.str (S (poolL 0))) G := by kernel_rfl
theorem pool_bo (G : List MO) : m__law_pool [.str (Str.ofString "bo")] G = .ok (.str (S (poolL 9))) G := by kernel_rfl
theorem pool_cy (G : List MO) : m__law_pool [.str (Str.ofString "cy")] G = .ok (.str (S (poolL 20))) G := by kernel_rfl
theorem lett_sign : lettL.all signOk = true := by decide +kernel
theorem lett_len : lettL.length = 57 := by decide +kernel
theorem poolL_ok (k : Nat) (hk : k ≤ 57) : (poolL k).length = 57 ∧ ∀ c ∈ poolL k, signOk c = true := by
  refine ⟨by unfold poolL; rw [List.length_append, List.length_drop, List.length_take, lett_len]; omega, fun c hc => List.all_eq_true.mp lett_sign c ?_⟩
  rcases List.mem_append.mp hc with h | h
  · exact List.mem_of_mem_drop h
  · exact List.mem_of_mem_take h
theorem pool_ok {x : Str} (G : List MO) (h : NmA x) : ∃ l : List Nat, m__law_pool [.str x] G = .ok (.str (S l)) G ∧ l.length = 57 ∧ ∀ c ∈ l, signOk c = true := by
  rcases h with rfl | rfl | rfl
  · exact ⟨_, pool_ann G, poolL_ok 0 (by omega)⟩
  · exact ⟨_, pool_bo G, poolL_ok 9 (by omega)⟩
  · exact ⟨_, pool_cy G, poolL_ok 20 (by omega)⟩
theorem saga_nm : nameB (Str.ofString "saga") = true := by decide +kernel
theorem ode_nm : nameB (Str.ofString "ode") = true := by decide +kernel
theorem see_nm : nameB (Str.ofString "see") = true := by decide +kernel
theorem says_nm : nameB (Str.ofString "says") = true := by decide +kernel
theorem of_two {n g : Nat} {G : List MO} (x y : Str) (hG : OkN n G) (hg : g < n) (hx : nameB x = true) (hy : nameB y = true) : ∃ (z : Str) (G' : List MO), m__law_of [.ref g, .lst [.str x, .str y]] G = .ok (.str z) G' ∧ nameB z = true ∧ OkN n G' := by
  obtain ⟨d, G1, e1, hd, o1⟩ := of_lst [.str x, .str y] hG hg (by simp) (by simp) (fun d hd => by
    simp at hd
    rcases hd with rfl | rfl
    · exact nm_len hx
    · exact nm_len hy)
  simp at hd
  rcases hd with rfl | rfl
  · exact ⟨x, G1, e1, hx, o1⟩
  · exact ⟨y, G1, e1, hy, o1⟩
theorem sgV_of {s : Sg} (h : IdOk s) : SgV s := ⟨h.1.nm, h.2.1, by have := h.2.2; omega⟩
theorem record_ok {n g : Nat} {G : List MO} (hG : OkN n G) (hg : g < n) : ∃ (r : Rec) (G' : List MO), m__law_record [.ref g] G = .ok (recD r) G' ∧ RecOk r ∧ OkN n G' := by
  obtain ⟨way, G1, e1, a1, b1, o1⟩ := take 8 hG hg (by omega) (by decide)
  obtain ⟨⟨nm, ik⟩, G2, e2, hi, o2⟩ := id_ok o1 hg
  obtain ⟨hn1, hn2, hn3⟩ := hi
  simp only at hn1 hn2 hn3
  by_cases w1 : way < 3
  · obtain ⟨f, G3, e3, a3, b3, o3⟩ := take 50 o2 hg (by omega) (by decide)
    obtain ⟨pl, e4, l4, s4⟩ := pool_ok G3 hn1
    obtain ⟨r5, G5, e5, a5, b5, o5⟩ := take 20 o3 hg (by omega) (by decide)
    obtain ⟨fn, hfn⟩ := Int.eq_ofNat_of_zero_le a3
    obtain ⟨en, hen⟩ : ∃ en : Nat, f + 1 + r5 = en := ⟨(f + 1 + r5).toNat, by omega⟩
    have hcut : cutS (S pl) (some f) (some (f + 1 + r5)) = S ((pl.drop fn).take (en - fn)) := by
      rw [hen, hfn, cutS_to]
    have hlen : ((pl.drop fn).take (en - fn)).length ≤ 57 ∧ 1 ≤ ((pl.drop fn).take (en - fn)).length := by
      rw [List.length_take, List.length_drop]
      omega
    have hlp : lenOk (S pl).length = true := by rw [S_len, l4]; rfl
    refine ⟨.pour nm f ((pl.drop fn).take (en - fn)), G5, ?_, ⟨hn1.nm, a3, by omega, by omega, hlen.2, by omega, fun c hc => s4 c (List.mem_of_mem_drop (List.mem_of_mem_take hc))⟩, o5⟩
    simp [m__law_record, b__law_record, e1, e2, w1, e3, sgD, e4, e5, hlp, hcut, recD, s_pour, show lenOk 4 = true from rfl]
  · by_cases w2 : way < 6
    · obtain ⟨r3, G3, e3, a3, b3, o3⟩ := take 3 o2 hg (by omega) (by decide)
      obtain ⟨k, hk⟩ := Int.eq_ofNat_of_zero_le a3
      have hr2 := rng_ok hk (by omega)
      obtain ⟨ys, G4, e4, l4, p4, o4⟩ := comp_inv (vs := [6]) (mi := M.range1 [M.call m__law_take [M.var 0, M.lit (.int 3)]]) (t := .one 6) (e := M.call m__law_id [M.var 0]) (s := ⟨[.val (.ref g), .val (.int way), .val (sgD (nm, ik)), .no, .no, .no, .no], G2⟩) (s1 := ⟨[.val (.ref g), .val (.int way), .val (sgD (nm, ik)), .no, .no, .no, .no], G3⟩)
        (ρ := [.val (.ref g), .val (.int way), .val (sgD (nm, ik)), .no, .no, .no, .no]) (G := G3) (I := OkN n) (P := fun y => ∃ s, IdOk s ∧ y = sgD s) (ds := rngD 0 k) (by simp [e3, -rng1K_int, hr2]) (lenOk_of (by rw [rngD_len]; omega)) rfl o3 fun d _ G hG => by
          obtain ⟨s, G', e, hs, o⟩ := id_ok hG hg
          exact ⟨sgD s, G', ⟨[.val (.ref g), .val (.int way), .val (sgD (nm, ik)), .no, .no, .no, .val d], G⟩, ⟨[.val (.ref g), .val (.int way), .val (sgD (nm, ik)), .no, .no, .no, .val d], G'⟩, rfl, by simp [e], rfl, rfl, ⟨s, hs, rfl⟩, o⟩
      obtain ⟨ss, rfl, hs⟩ := choose_list p4
      rw [List.length_map, rngD_len] at l4
      obtain ⟨ts, et, hm, pw, hl⟩ := sorted_sg ss
      have es := fun s => sortSet_ok s (show ss.length < 64 by omega) et
      obtain ⟨z, G5, e5, hz, o5⟩ := of_two _ _ o4 hg saga_nm ode_nm
      obtain ⟨pg, G6, e6, hp, o6⟩ := lpage_ok 3 3 4 rfl rfl (by omega) o5 hg
      have e4' : c__law_record_0 ⟨[.val (.ref g), .val (.int way), .val (sgD (nm, ik)), .no, .no, .no, .no], G2⟩ = .ok (ss.map sgD) ⟨[.val (.ref g), .val (.int way), .val (sgD (nm, ik)), .no, .no, .no, .no], G4⟩ := e4
      refine ⟨.page z nm ik ts pg, G6, ?_, ⟨hz, hn1.nm, hn2, hn3, by omega, fun s q => hs s ((hm s).mp q), pw, hp⟩, o6⟩
      have ow : ∀ (k : D → Sta → Out Fl) (st : Sta), outK k (sgD (nm, ik)) st = k (sgD (nm, ik)) st := fun _ _ => rfl
      have ad : ∀ (st : Sta) (x : List D), x.length ≤ 100 → addD st (.tup x) (sgD (nm, ik)) = some (.tup (x ++ [.str nm, .int ik])) := fun st x hx => by
        show (if lenOk (x.length + 2) = true then _ else none) = _
        rw [if_pos (lenOk_of (by omega))]
      simp [m__law_record, b__law_record, e1, e2, w1, w2, ow, e4', es, e5, e6, ad, show lenOk 1 = true from rfl, show lenOk 2 = true from rfl, show lenOk 5 = true from rfl, show lenOk 4 = true from rfl, show lenOk 3 = true from rfl, show lenOk 6 = true from rfl, recD, s_page]
    · by_cases w3 : way = 6
      · obtain ⟨ea, G3, e3, h3, o3⟩ := some_ends_ok o2 hg
        obtain ⟨eb, G4, e4, h4, o4⟩ := some_ends_ok o3 hg
        obtain ⟨z, G5, e5, hz, o5⟩ := of_two _ _ o4 hg see_nm says_nm
        refine ⟨.link nm ik z ea eb, G5, ?_, ⟨hn1.nm, hn2, hn3, hz, h3, h4⟩, o5⟩
        simp [m__law_record, b__law_record, e1, e2, w3, e3, e4, e5, sgD, lenOk, recD, s_link]
      · refine ⟨.off nm ik, G2, ?_, ⟨hn1.nm, hn2, hn3⟩, o2⟩
        simp [m__law_record, b__law_record, e1, e2, w1, w2, w3, sgD, lenOk, recD, s_off]
end Pw
namespace Pw
open PySem PySem.Spec PyProof.Rows L2 Ms SX
/-! ### the texts of things -/
def cod (x : Str) : List Nat := x.cps.toList
def numT (i : Int) : List Nat := TL.numL i.toNat
def spanTxt (s : Sp) : List Nat := cod s.1 ++ 58 :: (numT s.2.1 ++ 45 :: numT s.2.2)
def spsTxt (l : List Sp) : List Nat := if l = [] then [45] else joi 44 (l.map spanTxt)
def idTxt (s : Sg) : List Nat := cod s.1 ++ 46 :: numT s.2
def idsTxt (l : List Sg) : List Nat := if l = [] then [45] else joi 43 (l.map idTxt)
def wordsR : Rec → List (List Nat)
  | .pour n f t => [pourL, cod n, numT f, t]
  | .page w n k ps pg => [pageL, cod w, cod n, numT k, idsTxt ps, spsTxt pg]
  | .link n k kd a b => [linkL, cod n, numT k, cod kd, spsTxt a, spsTxt b]
  | .off n k => [offL, cod n, numT k]
def recTxt (r : Rec) : List Nat := joi 32 (wordsR r)
theorem S_cod (x : Str) : S (cod x) = x := S_str x
theorem cod_nm {x : Str} (h : nameB x = true) : (∀ c ∈ cod x, 97 ≤ c ∧ c ≤ 122) ∧ 1 ≤ (cod x).length ∧ (cod x).length ≤ 8 := by
  obtain ⟨zs, rfl, h1, h2, h3⟩ := nameB_inv h
  have e : cod (S zs) = zs := rfl
  rw [e]
  exact ⟨h3, h1, h2⟩
theorem num_mem {i : Int} {c : Nat} (h : c ∈ numT i) : 48 ≤ c ∧ c ≤ 57 := TL.numL_digits _ c h
theorem num_len {i : Int} (h : i ≤ 1000000) : (numT i).length ≤ 7 := TL.numL_len (by omega) (by omega)
theorem num_back {i : Int} (h0 : 0 ≤ i) (h : i ≤ 1000000) : optI (numL (numT i)) = .int i := by
  unfold numT
  rw [numL_num (by omega)]
  show D.int ((i.toNat : Nat) : Int) = _
  congr 1
  omega
/-- every sign of it is plain: no line's end, no sign of its own -/
def Plain (a : List Nat) : Prop := ∀ c ∈ a, 33 ≤ c ∧ c ≤ 126
theorem spanTxt_mem {s : Sp} (h : SpV s) {c : Nat} (hc : c ∈ spanTxt s) : (97 ≤ c ∧ c ≤ 122) ∨ (48 ≤ c ∧ c ≤ 57) ∨ c = 58 ∨ c = 45 := by
  unfold spanTxt at hc
  rcases List.mem_append.mp hc with q | q
  · exact .inl ((cod_nm h.1).1 c q)
  · rcases List.mem_cons.mp q with q | q
    · exact .inr (.inr (.inl q))
    · rcases List.mem_append.mp q with q | q
      · exact .inr (.inl (num_mem q))
      · rcases List.mem_cons.mp q with q | q
        · exact .inr (.inr (.inr q))
        · exact .inr (.inl (num_mem q))
theorem idTxt_mem {s : Sg} (h : IdOk s) {c : Nat} (hc : c ∈ idTxt s) : (97 ≤ c ∧ c ≤ 122) ∨ (48 ≤ c ∧ c ≤ 57) ∨ c = 46 := by
  unfold idTxt at hc
  rcases List.mem_append.mp hc with q | q
  · exact .inl ((cod_nm h.1.nm).1 c q)
  · rcases List.mem_cons.mp q with q | q
    · exact .inr (.inr q)
    · exact .inr (.inl (num_mem q))
theorem spanTxt_len {s : Sp} (h : SpV s) : (spanTxt s).length ≤ 24 := by
  have h1 := (cod_nm h.1).2.2
  have h2 := num_len (i := s.2.1) (by have := h.2.2.1; have := h.2.2.2; omega)
  have h3 := num_len h.2.2.2
  unfold spanTxt
  simp
  omega
theorem idTxt_len {s : Sg} (h : IdOk s) : (idTxt s).length ≤ 16 := by
  have h1 := (cod_nm h.1.nm).2.2
  have h2 := num_len (i := s.2) (by have := h.2.2; omega)
  unfold idTxt
  simp
  omega
theorem spanOf_txt {s : Sp} (h : SpV s) : spanOf (spanTxt s) = spD s := by
  have hn := cod_nm h.1
  have e1 : spc 58 (spanTxt s) = [cod s.1, numT s.2.1 ++ 45 :: numT s.2.2] := by
    unfold spanTxt
    rw [spc_app (fun q => by have := hn.1 _ q; omega), spc_none]
    intro q
    rcases List.mem_append.mp q with q | q
    · have := num_mem q; omega
    · rcases List.mem_cons.mp q with q | q
      · omega
      · have := num_mem q; omega
  have e2 : spc 45 (numT s.2.1 ++ 45 :: numT s.2.2) = [numT s.2.1, numT s.2.2] := by
    rw [spc_app (fun q => by have := num_mem q; omega), spc_none (fun q => by have := num_mem q; omega)]
  have e3 : spanRaw (spanTxt s) = spD s := by
    unfold spanRaw hdL tlL
    rw [e1]
    show D.tup (.str (S (cod s.1)) :: (spc 45 (numT s.2.1 ++ 45 :: numT s.2.2)).map fun p => optI (numL p)) = _
    rw [e2, S_cod, List.map_cons, List.map_cons, List.map_nil, num_back h.2.1 (by have := h.2.2.1; have := h.2.2.2; omega), num_back (by have := h.2.1; have := h.2.2.1; omega) h.2.2.2]
    rfl
  unfold spanOf
  rw [e3, if_pos (isSpan_sp h)]
theorem spsTxt_ne {l : List Sp} (h : l ≠ []) : spsTxt l = joi 44 (l.map spanTxt) := if_neg h
theorem joi_ne {c : Nat} {p : List Nat} {ps : List (List Nat)} (hp : p ≠ []) : ∃ x r, joi c (p :: ps) = x :: r ∧ p.head? = some x := by
  cases p with
  | nil => exact absurd rfl hp
  | cons x p =>
    cases ps with
    | nil => exact ⟨x, p, rfl, rfl⟩
    | cons q ps => exact ⟨x, p ++ ([c] ++ joi c (q :: ps)), rfl, rfl⟩
theorem head_nm {x : Str} (h : nameB x = true) (r : List Nat) : ∃ c q, cod x ++ r = c :: q ∧ 97 ≤ c := by
  obtain ⟨h1, h2, _⟩ := cod_nm h
  cases e : cod x with
  | nil => rw [e] at h2; simp at h2
  | cons c q => exact ⟨c, q ++ r, rfl, (h1 c (by rw [e]; exact List.mem_cons_self)).1⟩
theorem spsTxt_min {l : List Sp} (h : ∀ s ∈ l, SpV s) (hl : l ≠ []) : spsTxt l ≠ [45] := by
  rw [spsTxt_ne hl]
  cases l with
  | nil => exact absurd rfl hl
  | cons s l =>
    obtain ⟨c, q, e, hc⟩ := head_nm (h s List.mem_cons_self).1 (58 :: (numT s.2.1 ++ 45 :: numT s.2.2))
    have hne : spanTxt s ≠ [] := by unfold spanTxt; rw [e]; simp
    obtain ⟨x, r, e2, e3⟩ := joi_ne (c := 44) (ps := l.map spanTxt) hne
    rw [List.map_cons, e2]
    unfold spanTxt at e3
    rw [e] at e3
    simp at e3
    subst e3
    intro z
    simp at z
    omega
theorem idsTxt_min {l : List Sg} (h : ∀ s ∈ l, IdOk s) (hl : l ≠ []) : idsTxt l ≠ [45] := by
  unfold idsTxt
  rw [if_neg hl]
  cases l with
  | nil => exact absurd rfl hl
  | cons s l =>
    obtain ⟨c, q, e, hc⟩ := head_nm (h s List.mem_cons_self).1.nm (46 :: numT s.2)
    have hne : idTxt s ≠ [] := by unfold idTxt; rw [e]; simp
    obtain ⟨x, r, e2, e3⟩ := joi_ne (c := 43) (ps := l.map idTxt) hne
    rw [List.map_cons, e2]
    unfold idTxt at e3
    rw [e] at e3
    simp at e3
    subst e3
    intro z
    simp at z
    omega
theorem spansOf_txt {l : List Sp} (h : ∀ s ∈ l, SpV s) : spansOf (spsTxt l) = .tup (l.map spD) := by
  by_cases hl : l = []
  · subst hl
    rfl
  · have e1 : spc 44 (spsTxt l) = l.map spanTxt := by
      rw [spsTxt_ne hl]
      refine spc_joi (by simpa using hl) fun p hp q => ?_
      obtain ⟨s, hs, rfl⟩ := List.mem_map.mp hp
      have := spanTxt_mem (h s hs) q
      omega
    have e2 : (spc 44 (spsTxt l)).map spanOf = l.map spD := by
      rw [e1, List.map_map]
      exact List.map_congr_left fun s hs => spanOf_txt (h s hs)
    unfold spansOf
    rw [if_neg (spsTxt_min h hl), e2, if_neg]
    intro q
    rw [List.any_eq_true] at q
    obtain ⟨d, hd, hn⟩ := q
    obtain ⟨s, _, rfl⟩ := List.mem_map.mp hd
    cases hn
theorem idOf_txt {s : Sg} (h : IdOk s) : idOf (idTxt s) = sgD s := by
  have hn := cod_nm h.1.nm
  have e1 : spc 46 (idTxt s) = [cod s.1, numT s.2] := by
    unfold idTxt
    rw [spc_app (fun q => by have := hn.1 _ q; omega), spc_none (fun q => by have := num_mem q; omega)]
  unfold idOf hdL tlL
  rw [e1]
  show D.tup [.str (S (cod s.1)), optI (numL (numT s.2))] = _
  rw [S_cod, num_back h.2.1 (by have := h.2.2; omega)]
  rfl
theorem idsOf_txt {l : List Sg} (h : ∀ s ∈ l, IdOk s) : idsOf (idsTxt l) = .tup (l.map sgD) := by
  by_cases hl : l = []
  · subst hl
    rfl
  · have e1 : spc 43 (idsTxt l) = l.map idTxt := by
      unfold idsTxt
      rw [if_neg hl]
      refine spc_joi (by simpa using hl) fun p hp q => ?_
      obtain ⟨s, hs, rfl⟩ := List.mem_map.mp hp
      have := idTxt_mem (h s hs) q
      omega
    unfold idsOf
    rw [if_neg (idsTxt_min h hl), e1, List.map_map]
    congr 1
    exact List.map_congr_left fun s hs => idOf_txt (h s hs)
/-! ### signs of a record's text -/
theorem plain_nm {x : Str} (h : nameB x = true) : Plain (cod x) := fun c hc => by have := (cod_nm h).1 c hc; omega
theorem plain_num (i : Int) : Plain (numT i) := fun c hc => by have := num_mem hc; omega
theorem plain_joi {c : Nat} (hc : 33 ≤ c ∧ c ≤ 126) {ps : List (List Nat)} (h : ∀ p ∈ ps, Plain p) : Plain (joi c ps) := fun x hx => by
  rcases joi_mem hx with q | ⟨p, hp, q⟩
  · rw [q]; exact hc
  · exact h p hp x q
theorem plain_sps {l : List Sp} (h : ∀ s ∈ l, SpV s) : Plain (spsTxt l) := by
  unfold spsTxt
  split
  · intro c hc; rw [List.mem_singleton.mp hc]; omega
  · refine plain_joi (by omega) fun p hp c hc => ?_
    obtain ⟨s, hs, rfl⟩ := List.mem_map.mp hp
    have := spanTxt_mem (h s hs) hc
    omega
theorem plain_ids {l : List Sg} (h : ∀ s ∈ l, IdOk s) : Plain (idsTxt l) := by
  unfold idsTxt
  split
  · intro c hc; rw [List.mem_singleton.mp hc]; omega
  · refine plain_joi (by omega) fun p hp c hc => ?_
    obtain ⟨s, hs, rfl⟩ := List.mem_map.mp hp
    have := idTxt_mem (h s hs) hc
    omega
theorem no32 {a : List Nat} (h : Plain a) : 32 ∉ a := fun q => by have := h 32 q; omega
theorem p_pour : Plain pourL := by unfold Plain; decide
theorem p_page : Plain pageL := by unfold Plain; decide
theorem p_link : Plain linkL := by unfold Plain; decide
theorem p_off : Plain offL := by unfold Plain; decide
theorem partsOf_txt {r : Rec} (h : RecOk r) : partsOf (recTxt r) = recD r := by
  cases r with
  | pour n f t =>
    obtain ⟨h1, h2, h3, h4, _⟩ := h
    have e : spc 32 (recTxt (.pour n f t)) = pourL :: cod n :: numT f :: spc 32 t := by
      show spc 32 (pourL ++ 32 :: (cod n ++ 32 :: (numT f ++ 32 :: t))) = _
      rw [spc_app (no32 p_pour), spc_app (no32 (plain_nm h1)), spc_app (no32 (plain_num f))]
    unfold partsOf hdL tlL
    rw [e]
    show partsW pourL (cod n :: numT f :: spc 32 t) = _
    unfold partsW
    rw [if_pos rfl]
    cases et : spc 32 t with
    | nil => exact absurd et (spc_ne 32 t)
    | cons a b =>
      show D.tup [.str (S pourL), .str (S (cod n)), optI (numL (numT f)), .str (S (joi 32 (a :: b)))] = _
      rw [← et, joi_spc, S_cod, num_back h2 (by omega)]
      rfl
  | page w n k ps pg =>
    obtain ⟨h1, h2, h3, h4, h5, h6, h7, h8⟩ := h
    have e : spc 32 (recTxt (.page w n k ps pg)) = [pageL, cod w, cod n, numT k, idsTxt ps, spsTxt pg] := by
      refine spc_joi (by simp [wordsR]) fun p hp => ?_
      simp [wordsR] at hp
      rcases hp with rfl | rfl | rfl | rfl | rfl | rfl
      · exact no32 p_page
      · exact no32 (plain_nm h1)
      · exact no32 (plain_nm h2)
      · exact no32 (plain_num k)
      · exact no32 (plain_ids h6)
      · exact no32 (plain_sps h8.v)
    unfold partsOf hdL tlL
    rw [e]
    show partsW pageL [cod w, cod n, numT k, idsTxt ps, spsTxt pg] = _
    unfold partsW
    rw [if_neg n12, if_pos rfl]
    show D.tup [.str (S pageL), .str (S (cod w)), .str (S (cod n)), optI (numL (numT k)), idsOf (idsTxt ps), spansOf (spsTxt pg)] = _
    rw [S_cod, S_cod, num_back h3 (by omega), idsOf_txt h6, spansOf_txt h8.v]
    rfl
  | link n k kd a b =>
    obtain ⟨h1, h2, h3, h4, h5, h6⟩ := h
    have e : spc 32 (recTxt (.link n k kd a b)) = [linkL, cod n, numT k, cod kd, spsTxt a, spsTxt b] := by
      refine spc_joi (by simp [wordsR]) fun p hp => ?_
      simp [wordsR] at hp
      rcases hp with rfl | rfl | rfl | rfl | rfl | rfl
      · exact no32 p_link
      · exact no32 (plain_nm h1)
      · exact no32 (plain_num k)
      · exact no32 (plain_nm h4)
      · exact no32 (plain_sps h5.v)
      · exact no32 (plain_sps h6.v)
    unfold partsOf hdL tlL
    rw [e]
    show partsW linkL [cod n, numT k, cod kd, spsTxt a, spsTxt b] = _
    unfold partsW
    rw [if_neg n13, if_neg n23, if_pos rfl]
    show D.tup [.str (S linkL), .str (S (cod n)), optI (numL (numT k)), .str (S (cod kd)), spansOf (spsTxt a), spansOf (spsTxt b)] = _
    rw [S_cod, S_cod, num_back h2 (by omega), spansOf_txt h5.v, spansOf_txt h6.v]
    rfl
  | off n k =>
    obtain ⟨h1, h2, h3⟩ := h
    have e : spc 32 (recTxt (.off n k)) = [offL, cod n, numT k] := by
      refine spc_joi (by simp [wordsR]) fun p hp => ?_
      simp [wordsR] at hp
      rcases hp with rfl | rfl | rfl
      · exact no32 p_off
      · exact no32 (plain_nm h1)
      · exact no32 (plain_num k)
    unfold partsOf hdL tlL
    rw [e]
    show partsW offL [cod n, numT k] = _
    unfold partsW
    rw [if_neg n14, if_neg n24, if_neg n34, if_pos rfl]
    show D.tup [.str (S offL), .str (S (cod n)), optI (numL (numT k))] = _
    rw [S_cod, num_back h2 (by omega)]
    rfl
theorem idLt_sg (a b : Sg) : idLt (sgD a) (sgD b) = sgLt a b := dataLt_sg a.1 b.1 a.2 b.2
theorem adj_sg : ∀ {l : List Sg}, chn (fun a b => sgLt a b = true) l → (adj idLt (l.map sgD)).all id = true
  | [], _ => rfl
  | [_], _ => rfl
  | a :: b :: r, hc => by
    have ih := adj_sg (l := b :: r) hc.2
    unfold adj at ih ⊢
    simp only [List.map_cons, List.drop_succ_cons, List.drop_zero, List.zip_cons_cons, List.all_cons, id] at ih ⊢
    rw [idLt_sg, hc.1, ih]
    rfl
theorem isId_sg {n : Str} {k : Int} (h : nameB n = true) (h1 : 0 ≤ k) (h2 : k ≤ 999999) : isId (.tup [.str n, .int k]) = true := by
  simp [isId, isName, withinD, h, h1, h2]
theorem endsB_of {l : List Sp} (h : EnOk l) : endsB (.tup (l.map spD)) = true := by
  unfold endsB
  rw [isEnds_of h.v h.ap (by have := h.len; omega)]
  have : (l.map spD).isEmpty = false := by
    cases e : l with
    | nil => exact absurd e h.ne
    | cons a l => rfl
  simp [this]
theorem isRecord_rec {r : Rec} (h : RecOk r) : isRecord (recD r) = true := by
  cases r with
  | pour n f t =>
    obtain ⟨h1, h2, h3, h4, h5, h6, h7⟩ := h
    have ht : textB (S t) = true := by
      unfold textB
      rw [S_len, decide_eq_true h5, decide_eq_true (by omega : t.length ≤ 200), Bool.true_and, Bool.true_and, List.all_eq_true]
      exact h7
    have hl : f + ((S t).length : Int) ≤ 1000000 := by rw [S_len]; exact h3
    simp [recD, isRecord, ← s_pour, isPour, isName, h1, withinD, h2, h4, isPoured, ht]
    simpa using hl
  | page w n k ps pg =>
    obtain ⟨h1, h2, h3, h4, h5, h6, h7, h8⟩ := h
    have e1 : areParents (.tup (ps.map sgD)) = true := by
      show (decide ((ps.map sgD).length ≤ 2) && ((ps.map sgD).all isId && (adj idLt (ps.map sgD)).all id)) = true
      rw [adj_sg (chn_pw h7), List.length_map, decide_eq_true h5, Bool.and_true, Bool.true_and, List.all_eq_true]
      intro d hd
      obtain ⟨s, hs, rfl⟩ := List.mem_map.mp hd
      exact isId_sg (h6 s hs).1.nm (h6 s hs).2.1 (h6 s hs).2.2
    have e2 : isPage (.tup (pg.map spD)) = true := isPage_of h8.v h8.go (by have := h8.len; omega) (by have := h8.long; omega)
    simp [recD, isRecord, ← s_page, w_1, isVersion, isName, h1, isId_sg h2 h3 h4, e1, e2]
  | link n k kd a b =>
    obtain ⟨h1, h2, h3, h4, h5, h6⟩ := h
    simp [recD, isRecord, ← s_link, w_2, w_3, isLink, isName, h4, isId_sg h1 h2 h3, endsB_of h5, endsB_of h6]
  | off n k =>
    obtain ⟨h1, h2, h3⟩ := h
    simp [recD, isRecord, ← s_off, w_4, w_5, w_6, idL, isId_sg h1 h2 h3]
theorem recordOf_txt {r : Rec} (h : RecOk r) : recordOf (recTxt r) = recD r := by
  unfold recordOf
  rw [partsOf_txt h, if_pos (isRecord_rec h)]
end Pw
namespace Pw
open PySem PySem.Spec PyProof.Rows L2 Ms SX
theorem wgt_map {α : Type} (f : α → List Nat) (b : Nat) : ∀ {l : List α}, (∀ a ∈ l, (f a).length ≤ b) → wgt (l.map f) ≤ (b + 1) * l.length
  | [], _ => Nat.zero_le _
  | a :: l, h => by
    have h1 := h a List.mem_cons_self
    have h2 := wgt_map f b (l := l) fun x q => h x (List.mem_cons_of_mem _ q)
    rw [List.map_cons, wgt_cons, List.length_cons, Nat.mul_succ]
    omega
theorem spsTxt_len {l : List Sp} (h : ∀ s ∈ l, SpV s) : (spsTxt l).length ≤ 25 * l.length + 1 := by
  unfold spsTxt
  split
  · simp
  · have h1 := joi_len 44 (l.map spanTxt)
    have h2 := wgt_map spanTxt 24 (l := l) fun s q => spanTxt_len (h s q)
    omega
theorem idsTxt_len {l : List Sg} (h : ∀ s ∈ l, IdOk s) : (idsTxt l).length ≤ 17 * l.length + 1 := by
  unfold idsTxt
  split
  · simp
  · have h1 := joi_len 43 (l.map idTxt)
    have h2 := wgt_map idTxt 16 (l := l) fun s q => idTxt_len (h s q)
    omega
/-- signs of a record's line -/
def LineC (a : List Nat) : Prop := ∀ c ∈ a, 32 ≤ c ∧ c ≤ 126
theorem Plain.line {a : List Nat} (h : Plain a) : LineC a := fun c hc => by have := h c hc; omega
theorem sign_line {t : List Nat} (h : ∀ c ∈ t, signOk c = true) : LineC t := fun c hc => by
  have := h c hc
  unfold signOk at this
  simp at this
  omega
theorem words_line {r : Rec} (h : RecOk r) : ∀ p ∈ wordsR r, LineC p := by
  intro p hp
  cases r with
  | pour n f t =>
    obtain ⟨h1, h2, h3, h4, h5, h6, h7⟩ := h
    simp [wordsR] at hp
    rcases hp with rfl | rfl | rfl | rfl
    · exact p_pour.line
    · exact (plain_nm h1).line
    · exact (plain_num f).line
    · exact sign_line h7
  | page w n k ps pg =>
    obtain ⟨h1, h2, h3, h4, h5, h6, h7, h8⟩ := h
    simp [wordsR] at hp
    rcases hp with rfl | rfl | rfl | rfl | rfl | rfl
    · exact p_page.line
    · exact (plain_nm h1).line
    · exact (plain_nm h2).line
    · exact (plain_num k).line
    · exact (plain_ids h6).line
    · exact (plain_sps h8.v).line
  | link n k kd a b =>
    obtain ⟨h1, h2, h3, h4, h5, h6⟩ := h
    simp [wordsR] at hp
    rcases hp with rfl | rfl | rfl | rfl | rfl | rfl
    · exact p_link.line
    · exact (plain_nm h1).line
    · exact (plain_num k).line
    · exact (plain_nm h4).line
    · exact (plain_sps h5.v).line
    · exact (plain_sps h6.v).line
  | off n k =>
    obtain ⟨h1, h2, h3⟩ := h
    simp [wordsR] at hp
    rcases hp with rfl | rfl | rfl
    · exact p_off.line
    · exact (plain_nm h1).line
    · exact (plain_num k).line
theorem rec_line {r : Rec} (h : RecOk r) : LineC (recTxt r) := fun c hc => by
  rcases joi_mem hc with q | ⟨p, hp, q⟩
  · omega
  · exact words_line h p hp c q
theorem line_cp {a : List Nat} (h : LineC a) : cpOk a := fun c hc => by have := h c hc; omega
theorem words_wgt {r : Rec} (h : RecOk r) : wgt (wordsR r) ≤ 2500 := by
  cases r with
  | pour n f t =>
    obtain ⟨h1, h2, h3, h4, h5, h6, h7⟩ := h
    have a1 := (cod_nm h1).2.2
    have a2 := num_len (i := f) (by omega)
    have a0 : pourL.length = 4 := rfl
    simp only [wordsR, wgt_cons]
    simp [wgt]
    omega
  | page w n k ps pg =>
    obtain ⟨h1, h2, h3, h4, h5, h6, h7, h8⟩ := h
    have a1 := (cod_nm h1).2.2
    have a3 := (cod_nm h2).2.2
    have a2 := num_len (i := k) (by omega)
    have a0 : pageL.length = 4 := rfl
    have a4 := idsTxt_len h6
    have a5 := spsTxt_len h8.v
    have a6 := h8.len
    simp only [wordsR, wgt_cons]
    simp [wgt]
    omega
  | link n k kd a b =>
    obtain ⟨h1, h2, h3, h4, h5, h6⟩ := h
    have a1 := (cod_nm h1).2.2
    have a3 := (cod_nm h4).2.2
    have a2 := num_len (i := k) (by omega)
    have a0 : linkL.length = 4 := rfl
    have a4 := spsTxt_len h5.v
    have a5 := spsTxt_len h6.v
    have a6 := h5.len
    have a7 := h6.len
    simp only [wordsR, wgt_cons]
    simp [wgt]
    omega
  | off n k =>
    obtain ⟨h1, h2, h3⟩ := h
    have a1 := (cod_nm h1).2.2
    have a2 := num_len (i := k) (by omega)
    have a0 : offL.length = 3 := rfl
    simp only [wordsR, wgt_cons]
    simp [wgt]
    omega
theorem rec_len {r : Rec} (h : RecOk r) : (recTxt r).length ≤ 2500 := Nat.le_trans (joi_len 32 _) (words_wgt h)
/-! ### the writers -/
theorem toS {i : Int} (h : 0 ≤ i) : Str.ofString (toString i) = S (numT i) := by
  obtain ⟨n, rfl⟩ := Int.eq_ofNat_of_zero_le h
  exact num_S n
theorem log_i {i : Int} (h0 : 0 ≤ i) (h : i ≤ 1000000) : i.natAbs.log2 < 1920 := Nat.lt_of_lt_of_le (log2_lt (n := 20) h0 (by omega) (by omega)) (by omega)
theorem fmt_i {i : Int} (h0 : 0 ≤ i) (h : i ≤ 1000000) : gFmt (.int i) = some (.str (S (numT i))) := by
  show (if i.natAbs.log2 < 1920 then some (D.str (Str.ofString (toString i))) else none) = _
  rw [if_pos (log_i h0 h), toS h0]
theorem str_i {i : Int} (h0 : 0 ≤ i) (h : i ≤ 1000000) : gStr (.int i) = some (.str (S (numT i))) := by
  show (if i.natAbs.log2 < 1920 then some (D.str (Str.ofString (toString i))) else none) = _
  rw [if_pos (log_i h0 h), toS h0]
theorem fmt_s {a : List Nat} (h : a.length ≤ 16777216) : gFmt (.str (S a)) = some (.str (S a)) := by
  show (if lenOk (S a).length = true then some (D.str (S a)) else none) = _
  rw [if_pos (lenS a h)]
theorem fmt_n {x : Str} (h : nameB x = true) : gFmt (.str x) = some (.str (S (cod x))) := by
  have := fmt_s (a := cod x) (by have := (cod_nm h).2.2; omega)
  rw [S_cod] at this ⊢
  exact this
theorem str_s (x : Str) : gStr (.str x) = some (.str x) := rfl
theorem s_emp : Str.empty = S [] := rfl
theorem catS (a b : List Nat) : S a ++ S b = S (a ++ b) := S_cat a b
theorem c_spans_text_ok {l : List Sp} (G : List MO) (h : ∀ s ∈ l, SpV s) (hl : l.length ≤ 1000) : c_spans_text_0 ⟨[.val (.tup (l.map spD)), .no, .no, .no], G⟩ = .ok ((l.map spanTxt).map fun p => .str (S p)) ⟨[.val (.tup (l.map spD)), .no, .no, .no], G⟩ := by
  rw [List.map_map]
  refine comp_mapA (f := spD) (fun s => .str (S (spanTxt s))) (s1 := ⟨[.val (.tup (l.map spD)), .no, .no, .no], G⟩) (by simp) (lenOk_of (by omega)) rfl fun s hs => ?_
  have hv := h s hs
  obtain ⟨v1, v2, v3, v4⟩ := hv
  have b1 := (cod_nm v1).2.2
  have b2 := num_len (i := s.2.1) (by omega)
  have b3 := num_len v4
  refine ⟨⟨[.val (.tup (l.map spD)), .val (.str s.1), .val (.int s.2.1), .val (.int s.2.2)], G⟩, ⟨[.val (.tup (l.map spD)), .val (.str s.1), .val (.int s.2.1), .val (.int s.2.2)], G⟩, by simp [spD], ?_, rfl, rfl⟩
  have k1 : ∀ a : List Nat, a.length ≤ 100 → lenOk (S a).length = true := fun a ha => lenS a (by omega)
  simp [fmt_n v1, fmt_i v2 (by omega : s.2.1 ≤ 1000000), fmt_i (by omega : 0 ≤ s.2.2) v4, s_col, s_min, s_emp, catS]
  rw [if_pos (k1 _ (by omega)), if_pos (k1 _ (by simp; omega)), if_pos (k1 _ (by simp; omega)), if_pos (k1 _ (by simp; omega)), if_pos (k1 _ (by simp; omega))]
  simp [spanTxt]
theorem spans_text_ok {l : List Sp} (G : List MO) (h : ∀ s ∈ l, SpV s) (hl : l.length ≤ 1000) : m_spans_text [.tup (l.map spD)] G = .ok (.str (S (spsTxt l))) G := by
  have cc := c_spans_text_ok G h hl
  have hw := wgt_map spanTxt 24 (l := l) fun s q => spanTxt_len (h s q)
  have hj := fun s => joinD_joi s 44 (l.map spanTxt) (by omega)
  have hjl := joi_len 44 (l.map spanTxt)
  have k1 : lenOk (S (joi 44 (l.map spanTxt))).length = true := lenS _ (by omega)
  by_cases h0 : l = []
  · subst h0
    have hj := fun s => joinD_nil s 44
    simp at cc
    simp [m_spans_text, b_spans_text, cc, s_com, hj, s_min, spsTxt, S_len, lenOk]
  · have hne : joi 44 (l.map spanTxt) ≠ [] := by
      cases l with
      | nil => exact absurd rfl h0
      | cons s l =>
        have := (cod_nm (h s List.mem_cons_self).1).2.1
        have hne : spanTxt s ≠ [] := by unfold spanTxt; simp
        obtain ⟨x, r, e2, _⟩ := joi_ne (c := 44) (ps := l.map spanTxt) hne
        rw [List.map_cons, e2]
        simp
    have k2 : ¬ (S (joi 44 (l.map spanTxt))).length = 0 := by
      rw [S_len]
      have := List.length_pos_iff.mpr hne
      omega
    rw [spsTxt_ne h0]
    generalize l.map spanTxt = L at *
    generalize l.map spD = L2 at *
    simp [m_spans_text, b_spans_text, cc, s_com, hj, k1, k2]
theorem id_text_ok {s : Sg} (G : List MO) (h : IdOk s) : m_id_text [sgD s] G = .ok (.str (S (idTxt s))) G := by
  obtain ⟨h1, h2, h3⟩ := h
  have b1 := (cod_nm h1.nm).2.2
  have b2 := num_len (i := s.2) (by omega)
  have k1 : ∀ a : List Nat, a.length ≤ 100 → lenOk (S a).length = true := fun a ha => lenS a (by omega)
  simp [m_id_text, b_id_text, sgD, fmt_n h1.nm, fmt_i h2 (by omega : s.2 ≤ 1000000), s_dot, s_emp, catS]
  rw [if_pos (k1 _ (by omega)), if_pos (k1 _ (by simp; omega)), if_pos (k1 _ (by simp; omega))]
  simp [idTxt]
theorem addS (st : Sta) (a b : List Nat) (h : a.length + b.length ≤ 16777216) : addD st (.str (S a)) (.str (S b)) = some (.str (S (a ++ b))) := by
  rw [addD_str, if_pos (lenOk_of (by rw [S_len, S_len]; exact h)), catS]
theorem law_id_line_ok {s : Sg} (G : List MO) (h : IdOk s) : m__law_id_line [sgD s] G = .ok (.str (S (idTxt s))) G := by
  obtain ⟨x, k⟩ := s
  obtain ⟨h1, h2, h3⟩ := h
  simp only at h1 h2 h3
  have b1 := (cod_nm h1.nm).2.2
  have b2 := num_len (i := k) (by omega)
  have e : D.str x = .str (S (cod x)) := by rw [S_cod]
  simp (disch := (simp only [List.length_append, List.length_cons, List.length_nil]; omega)) [m__law_id_line, b__law_id_line, sgD, str_i h2 (by omega : k ≤ 1000000), s_dot, e, -addD_str, addS]
  simp [idTxt]
/-! ### spans' line of the law -/
theorem c_law_spans_ok {l : List Sp} (G : List MO) (h : ∀ s ∈ l, SpV s) (hl : l.length ≤ 1000) : c__law_spans_line_0 ⟨[.val (.tup (l.map spD)), .no], G⟩ = .ok ((l.map spanTxt).map fun p => .str (S p)) ⟨[.val (.tup (l.map spD)), .no], G⟩ := by
  rw [List.map_map]
  refine comp_mapA (f := spD) (fun s => .str (S (spanTxt s))) (s1 := ⟨[.val (.tup (l.map spD)), .no], G⟩) (by simp) (lenOk_of (by omega)) rfl fun s hs => ?_
  obtain ⟨n, f, e⟩ := s
  obtain ⟨v1, v2, v3, v4⟩ := h _ hs
  simp only at v1 v2 v3 v4
  have b1 := (cod_nm v1).2.2
  have b2 := num_len (i := f) (by omega)
  have b3 := num_len v4
  have en : D.str n = .str (S (cod n)) := by rw [S_cod]
  refine ⟨⟨[.val (.tup (l.map spD)), .val (spD (n, f, e))], G⟩, ⟨[.val (.tup (l.map spD)), .val (spD (n, f, e))], G⟩, rfl, ?_, rfl, rfl⟩
  simp (disch := (simp only [List.length_append, List.length_cons, List.length_nil]; omega)) [spD, str_i v2 (by omega : f ≤ 1000000), str_i (by omega : 0 ≤ e) v4, s_col, s_min, en, -addD_str, addS]
  simp [spanTxt]
theorem law_spans_ok {l : List Sp} (G : List MO) (h : ∀ s ∈ l, SpV s) (hl : l.length ≤ 1000) : m__law_spans_line [.tup (l.map spD)] G = .ok (.str (S (spsTxt l))) G := by
  have cc := c_law_spans_ok G h hl
  have hw := wgt_map spanTxt 24 (l := l) fun s q => spanTxt_len (h s q)
  have hj := fun s => joinD_joi s 44 (l.map spanTxt) (by omega)
  have eq0 := fun s => eqD_tup0 s (okN_spds h) (by omega)
  by_cases h0 : l = []
  · subst h0
    simp at eq0
    simp [m__law_spans_line, b__law_spans_line, eq0, lenOk, s_min, spsTxt]
  · have h5 : (l.map spD).isEmpty = false := by
      cases e : l with
      | nil => exact absurd e h0
      | cons a l => rfl
    simp only [h5] at eq0
    rw [spsTxt_ne h0]
    generalize l.map spanTxt = L at *
    generalize l.map spD = L2 at *
    simp [m__law_spans_line, b__law_spans_line, eq0, lenOk, cc, s_com, hj]
end Pw
namespace Pw
open PySem PySem.Spec PyProof.Rows L2 Ms SX
theorem s_pageb : Str.ofString "page " = S (pageL ++ [32]) := by decide +kernel
theorem s_linkb : Str.ofString "link " = S (linkL ++ [32]) := by decide +kernel
theorem isNe (l : List Sg) : (l = []) ∨ (l.map sgD).isEmpty = false := by cases l <;> simp
theorem idsTxt_pos {l : List Sg} (h : ∀ s ∈ l, IdOk s) (h0 : l ≠ []) : joi 43 (l.map idTxt) ≠ [] := by
  cases l with
  | nil => exact absurd rfl h0
  | cons s l =>
    have hne : idTxt s ≠ [] := by unfold idTxt; simp
    obtain ⟨x, r, e2, _⟩ := joi_ne (c := 43) (ps := l.map idTxt) hne
    rw [List.map_cons, e2]
    simp
theorem idsTxt_ne {l : List Sg} (h : l ≠ []) : idsTxt l = joi 43 (l.map idTxt) := if_neg h
/-! ### record_text -/
theorem c_rt1_ok {ps : List Sg} (G : List MO) (h : ∀ s ∈ ps, IdOk s) (hl : ps.length ≤ 1000) (x0 x1 x3 x4 x5 x6 x8 : Slot) : c_record_text_1 ⟨[x0, x1, .no, x3, x4, x5, x6, .val (.tup (ps.map sgD)), x8, .no, .no, .no, .no, .no], G⟩ = .ok ((ps.map idTxt).map fun p => .str (S p)) ⟨[x0, x1, .no, x3, x4, x5, x6, .val (.tup (ps.map sgD)), x8, .no, .no, .no, .no, .no], G⟩ := by
  rw [List.map_map]
  refine comp_mapA (f := sgD) (fun s => .str (S (idTxt s))) (s1 := ⟨[x0, x1, .no, x3, x4, x5, x6, .val (.tup (ps.map sgD)), x8, .no, .no, .no, .no, .no], G⟩) (by simp) (lenOk_of (by omega)) rfl fun s hs => ?_
  refine ⟨⟨[x0, x1, .no, x3, x4, x5, x6, .val (.tup (ps.map sgD)), x8, .no, .no, .no, .no, .val (sgD s)], G⟩, ⟨[x0, x1, .no, x3, x4, x5, x6, .val (.tup (ps.map sgD)), x8, .no, .no, .no, .no, .val (sgD s)], G⟩, rfl, ?_, rfl, rfl⟩
  have ow : ∀ (k : D → Sta → Out (List D)) (st : Sta), outK k (sgD s) st = k (sgD s) st := fun _ _ => rfl
  simp [id_text_ok G (h s hs), ow]
inductive JsP (s : Sta) : List (M D) → List (List Nat) → Prop
  | nil : JsP s [] []
  | cons {m : M D} {p : List Nat} {ms : List (M D)} {ps : List (List Nat)} (h : m s = .ok (.str (S p)) s) (t : JsP s ms ps) : JsP s (m :: ms) (p :: ps)
theorem js_all {s : Sta} : ∀ {ms : List (M D)} {ps : List (List Nat)} {acc : List Nat}, JsP s ms ps → acc.length + wgt ps ≤ 16777216 → M.js ms (S acc) s = .ok (.str (S (acc ++ ps.flatten))) s
  | [], _, acc, .nil, _ => by simp
  | m :: ms, _, acc, .cons (p := p) (ps := ps) h t, hl => by
    rw [wgt_cons] at hl
    have ih := js_all (acc := acc ++ p) t (by rw [List.length_append]; omega)
    rw [e_js, h, andThen_ok, strK_str, S_cat, if_pos (lenS _ (by rw [List.length_append]; omega)), ih]
    simp
theorem fin_ret {o : Out D} {d : D} {s : Sta} {b : M Fl} (h : o = .ok d s) (hd : d.isOwn = false) : finF ((o.andThen (outK fun d s => .ok (.rt d) s)).andThen (seqK b)) = .ok d s.G := by
  rw [h, andThen_ok, outK_no hd]
  rfl
theorem rt_page {w n : Str} {k : Int} {ps : List Sg} {pg : List Sp} (G : List MO) (h : RecOk (.page w n k ps pg)) : m_record_text [recD (.page w n k ps pg)] G = .ok (.str (S (recTxt (.page w n k ps pg)))) G := by
  obtain ⟨h1, h2, h3, h4, h5, h6, h7, h8⟩ := h
  have cc := fun x0 x1 x3 x4 x5 x6 x8 => c_rt1_ok G h6 (by omega) x0 x1 x3 x4 x5 x6 x8
  have st := spans_text_ok G h8.v (by have := h8.len; omega)
  have hwi := wgt_map idTxt 16 (l := ps) fun s q => idTxt_len (h6 s q)
  have b1 := (cod_nm h1).2.2
  have b3 := (cod_nm h2).2.2
  have b2 := num_len (i := k) (by omega)
  have b5 := spsTxt_len h8.v
  have b6 := h8.len
  have b0 : pageL.length = 4 := rfl
  have gi := idsTxt_len h6
  have bound : wgt [pageL ++ [32], cod w, [32], cod n, [32], numT k, [32], idsTxt ps, [32], spsTxt pg] ≤ 16000000 := by
    simp only [wgt_cons, List.length_append, List.length_cons, List.length_nil]
    simp [wgt]
    omega
  have out : ([] : List Nat) ++ [pageL ++ [32], cod w, [32], cod n, [32], numT k, [32], idsTxt ps, [32], spsTxt pg].flatten = recTxt (.page w n k ps pg) := by
    simp [recTxt, wordsR, joi, TL.joinL]
  rw [← out]
  by_cases h0 : ps = []
  · subst h0
    have hj := fun s => joinD_nil s 43
    simp at cc
    simp [m_record_text, b_record_text, -e_js, recD, s_page, s_pageb, s_bla, s_plu, s_min, s_emp, cc, hj, S_len, show lenOk 0 = true from rfl]
    refine (fin_ret (js_all (acc := []) (ps := [pageL ++ [32], cod w, [32], cod n, [32], numT k, [32], idsTxt [], [32], spsTxt pg]) ?_ (by simp only [List.length_nil]; omega)) rfl).trans ?_
    rotate_left
    · simp
    repeat' first | exact JsP.nil | refine JsP.cons ?_ ?_
    all_goals simp [fmt_n h1, fmt_n h2, fmt_i h3 (by omega : k ≤ 1000000), st, fmt_s (by omega : (spsTxt pg).length ≤ 16777216), show idsTxt [] = [45] from rfl, fmt_s (a := [45]) (by decide)]
  · have hj := fun s => joinD_joi s 43 (ps.map idTxt) (by omega)
    have hpos := idsTxt_pos h6 h0
    have hl2 := joi_len 43 (ps.map idTxt)
    have k2 : ¬ (S (joi 43 (ps.map idTxt))).length = 0 := by
      rw [S_len]
      have := List.length_pos_iff.mpr hpos
      omega
    have k1 : lenOk (S (joi 43 (ps.map idTxt))).length = true := lenS _ (by omega)
    rw [idsTxt_ne h0] at gi bound ⊢
    generalize ps.map idTxt = L at *
    generalize hP : ps.map sgD = L2 at *
    generalize hQ : pg.map spD = L3 at *
    simp [m_record_text, b_record_text, -e_js, recD, hP, hQ, s_page, s_pageb, s_bla, s_plu, s_min, s_emp, cc, hj, k2, k1]
    refine (fin_ret (js_all (acc := []) (ps := [pageL ++ [32], cod w, [32], cod n, [32], numT k, [32], joi 43 L, [32], spsTxt pg]) ?_ (by simp only [List.length_nil]; omega)) rfl).trans ?_
    rotate_left
    · simp
    repeat' first | exact JsP.nil | refine JsP.cons ?_ ?_
    all_goals simp [fmt_n h1, fmt_n h2, fmt_i h3 (by omega : k ≤ 1000000), st, fmt_s (by omega : (spsTxt pg).length ≤ 16777216), fmt_s (by omega : (joi 43 L).length ≤ 16777216)]
theorem rt_link {n kd : Str} {k : Int} {a b : List Sp} (G : List MO) (h : RecOk (.link n k kd a b)) : m_record_text [recD (.link n k kd a b)] G = .ok (.str (S (recTxt (.link n k kd a b)))) G := by
  obtain ⟨h1, h2, h3, h4, h5, h6⟩ := h
  have st := spans_text_ok G h5.v (by have := h5.len; omega)
  have st2 := spans_text_ok G h6.v (by have := h6.len; omega)
  have b1 := (cod_nm h1).2.2
  have b3 := (cod_nm h4).2.2
  have b2 := num_len (i := k) (by omega)
  have b5 := spsTxt_len h5.v
  have b6 := h5.len
  have b7 := spsTxt_len h6.v
  have b8 := h6.len
  have b0 : linkL.length = 4 := rfl
  have bound : wgt [linkL ++ [32], cod n, [32], numT k, [32], cod kd, [32], spsTxt a, [32], spsTxt b] ≤ 16000000 := by
    simp only [wgt_cons, List.length_append, List.length_cons, List.length_nil]
    simp [wgt]
    omega
  have out : ([] : List Nat) ++ [linkL ++ [32], cod n, [32], numT k, [32], cod kd, [32], spsTxt a, [32], spsTxt b].flatten = recTxt (.link n k kd a b) := by
    simp [recTxt, wordsR, joi, TL.joinL]
  rw [← out]
  have n31 : ¬ S linkL = S pageL := fun q => n23 (S_inj q)
  generalize hP : a.map spD = L2 at *
  generalize hQ : b.map spD = L3 at *
  simp [m_record_text, b_record_text, -e_js, recD, hP, hQ, s_page, s_link, s_linkb, s_bla, s_emp, n31]
  refine (fin_ret (js_all (acc := []) (ps := [linkL ++ [32], cod n, [32], numT k, [32], cod kd, [32], spsTxt a, [32], spsTxt b]) ?_ (by simp only [List.length_nil]; omega)) rfl).trans ?_
  rotate_left
  · simp
  repeat' first | exact JsP.nil | refine JsP.cons ?_ ?_
  all_goals simp [fmt_n h1, fmt_n h4, fmt_i h2 (by omega : k ≤ 1000000), st, st2, fmt_s (by omega : (spsTxt a).length ≤ 16777216), fmt_s (by omega : (spsTxt b).length ≤ 16777216)]
end Pw
namespace Pw
open PySem PySem.Spec PyProof.Rows L2 Ms SX
def strG : D → D
  | .int i => .str (S (numT i))
  | d => d
def SmallD (d : D) : Prop := (∃ x, d = .str x) ∨ ∃ i, d = .int i ∧ 0 ≤ i ∧ i ≤ 1000000
theorem strG_ok {d : D} (h : SmallD d) : gStr d = some (strG d) ∧ (strG d).isOwn = false := by
  rcases h with ⟨x, rfl⟩ | ⟨i, rfl, h1, h2⟩
  · exact ⟨rfl, rfl⟩
  · exact ⟨str_i h1 h2, rfl⟩
theorem c_rt0_ok {l : List D} (G : List MO) (h : ∀ d ∈ l, SmallD d) (hl : l.length ≤ 1000) (x1 x3 : Slot) : c_record_text_0 ⟨[.val (.tup l), x1, .no, x3, .no, .no, .no, .no, .no, .no, .no, .no, .no, .no], G⟩ = .ok (l.map strG) ⟨[.val (.tup l), x1, .no, x3, .no, .no, .no, .no, .no, .no, .no, .no, .no, .no], G⟩ := by
  refine comp_mapA (f := id) strG (s1 := ⟨[.val (.tup l), x1, .no, x3, .no, .no, .no, .no, .no, .no, .no, .no, .no, .no], G⟩) (by simp) (lenOk_of (by omega)) rfl fun d hd => ?_
  obtain ⟨e1, e2⟩ := strG_ok (h d hd)
  exact ⟨⟨[.val (.tup l), x1, .no, x3, .no, .no, .no, .no, .no, .no, .no, .no, .val d, .no], G⟩, ⟨[.val (.tup l), x1, .no, x3, .no, .no, .no, .no, .no, .no, .no, .no, .val d, .no], G⟩, rfl, by simp [e1], e2, rfl⟩
theorem c_ll0_ok {l : List D} (G : List MO) (h : ∀ d ∈ l, SmallD d) (hl : l.length ≤ 1000) : c__law_line_0 ⟨[.val (.tup l), .no, .no, .no, .no], G⟩ = .ok (l.map strG) ⟨[.val (.tup l), .no, .no, .no, .no], G⟩ := by
  refine comp_mapA (f := id) strG (s1 := ⟨[.val (.tup l), .no, .no, .no, .no], G⟩) (by simp) (lenOk_of (by omega)) rfl fun d hd => ?_
  obtain ⟨e1, e2⟩ := strG_ok (h d hd)
  exact ⟨⟨[.val (.tup l), .no, .no, .val d, .no], G⟩, ⟨[.val (.tup l), .no, .no, .val d, .no], G⟩, rfl, by simp [e1], e2, rfl⟩
theorem n41' : ¬ S offL = S pourL := fun q => n14 (S_inj q)
theorem nS21 : ¬ S pourL = S pageL := fun q => n12 (S_inj q).symm
theorem nS31 : ¬ S pourL = S linkL := fun q => n13 (S_inj q).symm
theorem nS42 : ¬ S offL = S pageL := fun q => n24 (S_inj q)
theorem nS43 : ¬ S offL = S linkL := fun q => n34 (S_inj q)
theorem nS32 : ¬ S linkL = S pageL := fun q => n23 (S_inj q)
theorem small_pour {n : Str} {f : Int} {t : List Nat} (h : RecOk (.pour n f t)) : ∀ d ∈ [D.str (S pourL), .str n, .int f, .str (S t)], SmallD d := fun d hd => by
  simp at hd
  rcases hd with rfl | rfl | rfl | rfl
  · exact .inl ⟨_, rfl⟩
  · exact .inl ⟨_, rfl⟩
  · exact .inr ⟨_, rfl, h.2.1, by have := h.2.2.2.1; omega⟩
  · exact .inl ⟨_, rfl⟩
theorem small_off {n : Str} {k : Int} (h : RecOk (.off n k)) : ∀ d ∈ [D.str (S offL), .str n, .int k], SmallD d := fun d hd => by
  simp at hd
  rcases hd with rfl | rfl | rfl
  · exact .inl ⟨_, rfl⟩
  · exact .inl ⟨_, rfl⟩
  · exact .inr ⟨_, rfl, h.2.1, by have := h.2.2; omega⟩
theorem join_words (s : Sta) {r : Rec} (h : RecOk r) : joinD s (.str (S [32])) (.lst ((wordsR r).map fun p => .str (S p))) = some (.str (S (recTxt r))) := joinD_joi s 32 (wordsR r) (by have := words_wgt h; omega)
theorem record_text_ok {r : Rec} (G : List MO) (h : RecOk r) : m_record_text [recD r] G = .ok (.str (S (recTxt r))) G := by
  have hj := fun s => join_words s h
  cases r with
  | page w n k ps pg => exact rt_page G h
  | link n k kd a b => exact rt_link G h
  | pour n f t =>
    have cc := fun x1 x3 => c_rt0_ok G (small_pour h) (by simp) x1 x3
    simp [wordsR, S_cod] at hj
    simp [strG] at cc
    simp [m_record_text, b_record_text, -e_js, recD, s_page, s_link, s_bla, nS21, nS31, Ne.symm n12, Ne.symm n13, cc, hj]
  | off n k =>
    have cc := fun x1 x3 => c_rt0_ok G (small_off h) (by simp) x1 x3
    simp [wordsR, S_cod] at hj
    simp [strG] at cc
    simp [m_record_text, b_record_text, -e_js, recD, s_page, s_link, s_bla, nS42, nS43, n14, Ne.symm n24, n24, n34, Ne.symm n34, cc, hj]
theorem c_ll1_ok {n w : Str} {k : Int} {ps : List Sg} {pg : List Sp} (G : List MO) (h : ∀ s ∈ ps, IdOk s) (hl : ps.length ≤ 1000) : c__law_line_1 ⟨[.val (recD (.page w n k ps pg)), .no, .no, .no, .no], G⟩ = .ok ((ps.map idTxt).map fun p => .str (S p)) ⟨[.val (recD (.page w n k ps pg)), .no, .no, .no, .no], G⟩ := by
  rw [List.map_map]
  refine comp_mapA (f := sgD) (fun s => .str (S (idTxt s))) (s1 := ⟨[.val (recD (.page w n k ps pg)), .no, .no, .no, .no], G⟩) (by simp [recD]) (lenOk_of (by omega)) rfl fun s hs => ?_
  have ow : ∀ (k : D → Sta → Out (List D)) (st : Sta), outK k (sgD s) st = k (sgD s) st := fun _ _ => rfl
  exact ⟨⟨[.val (recD (.page w n k ps pg)), .no, .no, .no, .val (sgD s)], G⟩, ⟨[.val (recD (.page w n k ps pg)), .no, .no, .no, .val (sgD s)], G⟩, rfl, by simp [law_id_line_ok G (h s hs), ow], rfl, rfl⟩
theorem okN_sgD {s : Sg} (h : nameB s.1 = true) : okN 1 (sgD s) = true := by
  obtain ⟨zs, e, h1, h2, h3⟩ := nameB_inv h
  refine okN_tup fun d hd => ?_
  simp at hd
  rcases hd with rfl | rfl
  · rw [e]; exact okN_S (fun c hc => by have := h3 c hc; omega) (by omega)
  · rfl
theorem okN_sgds {l : List Sg} (h : ∀ s ∈ l, IdOk s) : okN 2 (.tup (l.map sgD)) = true := okN_tup fun d hd => by
  obtain ⟨s, hs, rfl⟩ := List.mem_map.mp hd
  exact okN_sgD (h s hs).1.nm
theorem law_line_ok {r : Rec} (G : List MO) (h : RecOk r) : m__law_line [recD r] G = .ok (.str (S (recTxt r))) G := by
  have hj := fun s => join_words s h
  cases r with
  | page w n k ps pg =>
    obtain ⟨h1, h2, h3, h4, h5, h6, h7, h8⟩ := h
    have cc := c_ll1_ok (n := n) (w := w) (k := k) (ps := ps) (pg := pg) G h6 (by omega)
    have eq0 := fun s => eqD_tup0 s (okN_sgds h6) (by omega)
    have ls := law_spans_ok G h8.v (by have := h8.len; omega)
    have hwi := wgt_map idTxt 16 (l := ps) fun s q => idTxt_len (h6 s q)
    have hj2 := fun s => joinD_joi s 43 (ps.map idTxt) (by omega)
    simp only [wordsR, List.map_cons, List.map_nil, S_cod] at hj
    simp only [recD] at cc
    by_cases h0 : ps = []
    · subst h0
      simp at eq0
      simp only [show idsTxt [] = [45] from rfl] at hj
      simp [m__law_line, b__law_line, recD, s_page, s_bla, s_min, eq0, lenOk, str_i h3 (by omega : k ≤ 1000000), ls, hj]
    · have h5' : (ps.map sgD).isEmpty = false := by
        cases e : ps with
        | nil => exact absurd e h0
        | cons a l => rfl
      simp only [h5'] at eq0
      rw [idsTxt_ne h0] at hj
      generalize ps.map idTxt = L at *
      generalize hP : ps.map sgD = L2 at *
      generalize hQ : pg.map spD = L3 at *
      simp [m__law_line, b__law_line, recD, hP, hQ, s_page, s_bla, s_plu, eq0, lenOk, str_i h3 (by omega : k ≤ 1000000), ls, hj, hj2, cc]
  | link n k kd a b =>
    obtain ⟨h1, h2, h3, h4, h5, h6⟩ := h
    have ls := law_spans_ok G h5.v (by have := h5.len; omega)
    have ls2 := law_spans_ok G h6.v (by have := h6.len; omega)
    simp only [wordsR, List.map_cons, List.map_nil, S_cod] at hj
    generalize hP : a.map spD = L2 at *
    generalize hQ : b.map spD = L3 at *
    simp [m__law_line, b__law_line, recD, hP, hQ, s_page, s_link, s_bla, lenOk, str_i h2 (by omega : k ≤ 1000000), ls, ls2, hj, nS32, n23]
  | pour n f t =>
    have cc := c_ll0_ok G (small_pour h) (by simp)
    simp only [wordsR, List.map_cons, List.map_nil, S_cod] at hj
    simp [strG] at cc
    simp [m__law_line, b__law_line, recD, s_page, s_link, s_bla, nS21, nS31, Ne.symm n12, Ne.symm n13, cc, hj]
  | off n k =>
    have cc := c_ll0_ok G (small_off h) (by simp)
    simp only [wordsR, List.map_cons, List.map_nil, S_cod] at hj
    simp [strG] at cc
    simp [m__law_line, b__law_line, recD, s_page, s_link, s_bla, nS42, nS43, n14, Ne.symm n24, n24, n34, Ne.symm n34, cc, hj]
theorem recD_own (r : Rec) : (recD r).isOwn = false := by cases r <;> rfl
theorem records_text_ok {rs : List Rec} (G : List MO) (h : ∀ r ∈ rs, RecOk r) (hl : rs.length ≤ 1000) : m_records_text [.lst (rs.map recD)] G = .ok (.str (S (joi 10 (rs.map recTxt)))) G := by
  have hw := wgt_map recTxt 2500 (l := rs) fun r q => rec_len (h r q)
  have hj := fun s => joinD_joi s 10 (rs.map recTxt) (by omega)
  have cc : c_records_text_0 ⟨[.val (.lst (rs.map recD)), .no], G⟩ = .ok ((rs.map recTxt).map fun p => .str (S p)) ⟨[.val (.lst (rs.map recD)), .no], G⟩ := by
    rw [List.map_map]
    refine comp_mapA (f := recD) (fun r => .str (S (recTxt r))) (s1 := ⟨[.val (.lst (rs.map recD)), .no], G⟩) (by simp) (lenOk_of (by omega)) rfl fun r hr => ?_
    have ow : ∀ (k : D → Sta → Out (List D)) (st : Sta), outK k (recD r) st = k (recD r) st := fun _ _ => outK_no (recD_own r)
    exact ⟨⟨[.val (.lst (rs.map recD)), .val (recD r)], G⟩, ⟨[.val (.lst (rs.map recD)), .val (recD r)], G⟩, rfl, by simp [record_text_ok G (h r hr), ow], rfl, rfl⟩
  generalize rs.map recD = L at *
  generalize rs.map recTxt = L2 at *
  simp [m_records_text, b_records_text, cc, s_row, hj]
end Pw
namespace Pw
open PySem PySem.Spec PyProof.Rows L2 Ms SX
theorem kinds_noText (k : Nat) (G : List MO) : m__law_kinds [noText (.int (k : Int))] G = .ok (.str (Str.ofString "told NoText+")) G := by kernel_rfl
theorem tryAs_exc {kc : Str → Option Bool} {i : Nat} {body suite : M Fl} {s s1 s2 : Sta} {c n : Str} {d : D} {f : Fl} (hb : body s = .exc (.exc c n d) s1) (hk : kc c = some true) (hi : i < s1.ρ.length)
    (hs : suite { s1 with ρ := s1.ρ.set i (.val (.exc c n d)) } = .ok f s2) (h1 : Sta.noX { s2 with ρ := s2.ρ.set i .no } = true) (h2 : f.noX = true) (h3 : s2.ρ.length = s1.ρ.length) : M.tryAs kc i body suite s = .ok f { s2 with ρ := s2.ρ.set i .no } := by
  unfold M.tryAs
  rw [hb]
  simp only [hk, if_pos hi, hs, h1, h2, h3, decide_true, Bool.and_self, if_true]
theorem tryAs_ok {kc : Str → Option Bool} {i : Nat} {body suite : M Fl} {s s1 : Sta} {f : Fl} (hb : body s = .ok f s1) : M.tryAs kc i body suite s = .ok f s1 := by
  unfold M.tryAs
  rw [hb]
def twoK (i j : Nat) (ds : List D) (s : Sta) : Out Fl := match ds with
  | [a, b] => M.seq (M.put i (.val a)) (M.put j (.val b)) s
  | _ => .stuck
@[simp] theorem twoK_two (i j : Nat) (a b : D) (s : Sta) : twoK i j [a, b] s = M.seq (M.put i (.val a)) (M.put j (.val b)) s := rfl
@[simp] theorem e_par (i j : Nat) (ms : List (M D)) (s : Sta) : M.par i j ms s = (M.args ms s).andThen (twoK i j) := by
  unfold M.par
  rw [e_bind]
  first
    | (refine aext ?_; intro ds s)
    | (congr 1; funext ds s)
  rcases ds with _ | ⟨a, _ | ⟨b, _ | ⟨c, ds⟩⟩⟩ <;> rfl
@[simp] theorem e_xf (f : Str) (cs : List Str) (m : M D) (s : Sta) : M.xf f cs m s = (m s).andThen fun d s => oOut (fldD f cs d) s := by
  unfold M.xf
  rw [e_bind]
  first
    | (refine aext ?_; intro d s)
    | (congr 1; funext d s)
  exact e_opt _ _
@[simp] theorem e_insert (mo mi mv : M D) (s : Sta) : M.insert mo mi mv s = (mo s).andThen fun o s => (M.isL o s).andThen fun o s => (mi s).andThen (outK fun i s => (mv s).andThen (outK fun v s => M.mut o (insF i v) s)) := by
  unfold M.insert
  rw [e_bind]
  first
    | (refine aext ?_; intro o s)
    | (congr 1; funext o s)
  rw [e_bind]
  first
    | (refine aext ?_; intro o s)
    | (congr 1; funext o s)
  rw [e_bind]
  first
    | (refine aext ?_; intro i s)
    | (congr 1; funext i s)
  rw [bind_out]
  first
    | (refine aext ?_; intro i s)
    | (congr 1; funext i s)
  rw [e_bind]
  first
    | (refine aext ?_; intro v s)
    | (congr 1; funext v s)
  exact bind_out v s
@[simp] theorem e_index (mo mv : M D) (s : Sta) : M.index mo mv s = (mo s).andThen fun o s => (M.isL o s).andThen fun o s => (mv s).andThen fun v s => oOut (indexD s o v) s := by
  unfold M.index
  rw [e_bind]
  first
    | (refine aext ?_; intro o s)
    | (congr 1; funext o s)
  rw [e_bind]
  first
    | (refine aext ?_; intro o s)
    | (congr 1; funext o s)
  rw [e_bind]
  first
    | (refine aext ?_; intro v s)
    | (congr 1; funext v s)
  exact e_look _ _
theorem insF_ok (k : Nat) (v : D) (l : List D) (h : l.length < 1000000) (hk : k < 1000000) : insF (.int (k : Int)) v (.lst l) = some (.lst (l.take k ++ [v] ++ l.drop k)) := by
  have h1 : lenOk (l.length + 1) = true := lenOk_of (by omega)
  have h2 : ((k : Int) < 2 ^ 63) := Int.lt_trans (b := 2 ^ 20) (by omega) (by decide)
  simp [insF, h1]
  exact h2
theorem no_text_exc {a : List Nat} {k : Nat} {G : List MO} (hG : Ok G) (hL : Lines (spc 10 a)) (h : a.length ≤ 16770000) (hr : readA a = .inr k) :
    m__law_no_text [.int 2, .str (S a)] G = .ok (.tup [.non, .str (Str.ofString "told NoText+"), .int k]) G := by
  have e1 := read_records_ok G hL h
  rw [hr] at e1
  have e1 : m_read_records [.str (S a)] G = .exc (noText (.int (k : Nat))) G := e1
  have nx := hG.noX
  have e2 := kinds_noText k G
  have try_ := tryAs_exc (kc := ec_NoText) (i := 5) (body := M.cond (M.bool (M.op2 fEq (M.var 0) (M.lit (.int 0))))
    (M.set 2 (M.call m_read_spans [(M.var 1)]))
    (M.cond (M.bool (M.op2 fEq (M.var 0) (M.lit (.int 1))))
    (M.set 2 (M.call m_read_record [(M.var 1)]))
    (M.set 2 (M.call m_read_records [(M.var 1)])))) (suite := M.par 3 4 [(M.call m__law_kinds [(M.var 5)]), (M.xf "line" xs_line (M.var 5))])
    (s := ⟨[.val (.int 2), .val (.str (S a)), .val .non, .val (.str ""), .val (.int 0), .no], G⟩) (s1 := ⟨[.val (.int 2), .val (.str (S a)), .val .non, .val (.str ""), .val (.int 0), .no], G⟩)
    (s2 := ⟨[.val (.int 2), .val (.str (S a)), .val .non, .val (.str (Str.ofString "told NoText+")), .val (.int k), .val (noText (.int k))], G⟩) (c := "NoText") (n := "line") (d := .int k) (f := .nx)
    (by simp [e1, noText]) (by rfl) (by simp)
    (by
      have e3 : fldD "line" xs_line (noText (.int k)) = some (.int k) := rfl
      unfold noText at e2 e3
      simp [e2, e3, noText])
    (by simp [Sta.noX, nx, Slot.noX, D.noX]) rfl rfl
  simp [m__law_no_text, b__law_no_text, -e_cond]
  rw [show (Str.ofString "" : Str) = "" from rfl] at *
  rw [try_]
  simp [lenOk]
/-! ### rows of lines, some blank -/
def txtO : Option Rec → List Nat
  | some r => recTxt r
  | none => []
theorem rec_nn {a : List Nat} {r : Rec} (h : RecOk r) (ha : (recordOf a).isNon = true) : recTxt r ≠ a := fun e => by
  rw [← e, recordOf_txt h] at ha
  cases r <;> cases ha
theorem rec_0 {r : Rec} (h : RecOk r) : recTxt r ≠ [] := rec_nn h (by decide +kernel)
theorem rec_32 {r : Rec} (h : RecOk r) : recTxt r ≠ [32] := rec_nn h (by decide +kernel)
theorem recD_isNon (r : Rec) : (recD r).isNon = false := by cases r <;> rfl
def OsOk (os : List (Option Rec)) : Prop := ∀ o ∈ os, ∀ r, o = some r → RecOk r
theorem readL_os : ∀ (os : List (Option Rec)) (i : Nat) (acc : List D) (t : List (List Nat)), OsOk os → readL i (os.map txtO ++ t) acc = readL (i + os.length) t (acc ++ (os.filterMap id).map recD)
  | [], i, acc, t, _ => by simp
  | o :: os, i, acc, t, h => by
    have ih := fun acc => readL_os os (i + 1) acc t fun o ho => h o (List.mem_cons_of_mem _ ho)
    cases o with
    | none =>
      have e : readL i ((none :: os).map txtO ++ t) acc = readL (i + 1) (os.map txtO ++ t) acc := rfl
      rw [e, ih]
      simp [Nat.add_comm, Nat.add_left_comm]
    | some r =>
      have hr := h (some r) List.mem_cons_self r rfl
      have e : readL i ((some r :: os).map txtO ++ t) acc = if recTxt r = [] then readL (i + 1) (os.map txtO ++ t) acc else if (recordOf (recTxt r)).isNon = true then .inr (i + 1) else readL (i + 1) (os.map txtO ++ t) (acc ++ [recordOf (recTxt r)]) := rfl
      rw [e, if_neg (rec_0 hr), recordOf_txt hr, recD_isNon, if_neg (by simp), ih]
      simp [Nat.add_comm, Nat.add_left_comm]
theorem txtO_line {o : Option Rec} (h : ∀ r, o = some r → RecOk r) : LineC (txtO o) ∧ (txtO o).length ≤ 2500 := by
  cases o with
  | none => exact ⟨by unfold LineC; simp [txtO], by simp [txtO]⟩
  | some r => exact ⟨rec_line (h r rfl), rec_len (h r rfl)⟩
theorem LineC.no10 {a : List Nat} (h : LineC a) : 10 ∉ a := fun q => by have := h 10 q; omega
/-- a list of lines that are no more than 2500 signs long each -/
def LnOk (ls : List (List Nat)) : Prop := ls ≠ [] ∧ ls.length ≤ 1000 ∧ ∀ l ∈ ls, LineC l ∧ l.length ≤ 2500
theorem LnOk.spl {ls : List (List Nat)} (h : LnOk ls) : spc 10 (joi 10 ls) = ls := spc_joi h.1 fun p hp => (h.2.2 p hp).1.no10
theorem LnOk.wg {ls : List (List Nat)} (h : LnOk ls) : wgt ls ≤ 2501000 := by
  have h1 := wgt_map id 2500 (l := ls) fun a q => (h.2.2 a q).2
  rw [List.map_id] at h1
  have := h.2.1
  omega
theorem LnOk.len {ls : List (List Nat)} (h : LnOk ls) : (joi 10 ls).length ≤ 2501000 := Nat.le_trans (joi_len 10 ls) h.wg
theorem LnOk.lines {ls : List (List Nat)} (h : LnOk ls) : Lines (spc 10 (joi 10 ls)) := by
  rw [h.spl]
  exact fun l hl => ⟨line_cp (h.2.2 l hl).1, by have := (h.2.2 l hl).2; omega⟩
theorem LnOk.read {ls : List (List Nat)} (h : LnOk ls) : readA (joi 10 ls) = readL 0 ls [] := by
  unfold readA
  rw [h.spl]
theorem OsOk.ln {os : List (Option Rec)} (h : OsOk os) (h0 : os ≠ []) (hl : os.length ≤ 1000) : LnOk (os.map txtO) := ⟨by simpa using h0, by simpa using hl, fun l hl => by
  obtain ⟨o, ho, rfl⟩ := List.mem_map.mp hl
  exact txtO_line (h o ho)⟩
theorem OsOk.ins {os : List (Option Rec)} (h : OsOk os) (k : Nat) : OsOk (os.take k ++ [none] ++ os.drop k) := fun o ho r hr => by
  simp at ho
  rcases ho with q | q | q
  · exact h o (List.mem_of_mem_take q) r hr
  · subst q; cases hr
  · exact h o (List.mem_of_mem_drop q) r hr
theorem ins_fm {os : List (Option Rec)} (k : Nat) : (os.take k ++ [none] ++ os.drop k).filterMap id = os.filterMap id := by
  rw [List.filterMap_append, List.filterMap_append]
  show (os.take k).filterMap id ++ [] ++ (os.drop k).filterMap id = _
  rw [List.append_nil, ← List.filterMap_append, List.take_append_drop]
theorem ins_len {os : List (Option Rec)} (k : Nat) : (os.take k ++ [none] ++ os.drop k).length = os.length + 1 := by simp; omega
end Pw
namespace Pw
open PySem PySem.Spec PyProof.Rows L2 Ms SX
theorem okN_recD {r : Rec} (h : RecOk r) : okN 3 (recD r) = true := by
  rw [← recordOf_txt h]
  exact okN_recordOf (line_cp (rec_line h)) (by have := rec_len h; omega)
theorem okN_recs {rs : List Rec} (h : ∀ r ∈ rs, RecOk r) : okN 4 (.lst (rs.map recD)) = true := okN_lst fun d hd => by
  obtain ⟨r, hr, rfl⟩ := List.mem_map.mp hd
  exact okN_recD (h r hr)
def strP (p : List Nat) : D := .str (S p)
theorem okN_strP {ls : List (List Nat)} (h : ∀ l ∈ ls, LineC l ∧ l.length ≤ 2500) : okN 1 (.lst (ls.map strP)) = true := okN_lst fun d hd => by
  obtain ⟨l, hl, rfl⟩ := List.mem_map.mp hd
  have := h l hl
  exact okN_S (fun c hc => by have := this.1 c hc; omega) (by omega)
theorem joinD_own {s : Sta} {a : Str} {i : Nat} {l : List D} (h : s.ρ[i]? = some (.own (.lst l))) : joinD s (.str a) (.own i) = joinD s (.str a) (.lst l) := by
  have e : (D.own i).seqL s = some l := by rw [seqL_own, h]
  simp only [joinD, e, seqL_lst]
theorem pyS_own {s : Sta} {i : Nat} {l : List D} (h : s.ρ[i]? = some (.own (.lst l))) : (D.own i).pyS s = (D.lst l).pyS s := by
  have e : (D.own i).seqL s = some l := by rw [seqL_own, h]
  show (match (D.own i).seqL s with | some l => (pyL l).map PyData.list | none => none) = D.py (.lst l)
  rw [e]
  rfl
theorem eqD_own {n : Nat} {s : Sta} {i : Nat} {l : List D} (h : s.ρ[i]? = some (.own (.lst l))) (ho : okN n (.lst l) = true) (hn : n ≤ 64) : eqD s (.lst l) (.own i) = some true := by
  have e := eqD_same s ho hn
  have e2 : scEq (.lst l) (.lst l) = none := rfl
  have e3 : scEq (.lst l) (.own i) = none := rfl
  unfold eqD at e ⊢
  rw [e2] at e
  rw [e3, pyS_own h]
  exact e
theorem ln10 {s : Sta} {ls : List (List Nat)} (h : LnOk ls) : joinD s (.str (S [10])) (.lst (ls.map strP)) = some (.str (S (joi 10 ls))) := joinD_joi s 10 ls (by have := h.wg; omega)
theorem idx_strs : ∀ (ls ms : List (List Nat)) (j : Nat), (∀ l ∈ ls, l ≠ [32]) → idxOf ((ls ++ [32] :: ms).map fun l => PyData.str (S l)) (.str (S [32])) j = some (j + ls.length)
  | [], ms, j, _ => by simp [idxOf, PyData.eqv]
  | l :: ls, ms, j, h => by
    have e : PyData.eqv (.str (S l)) (.str (S [32])) = false := by
      have : ¬ S l = S [32] := fun q => h l List.mem_cons_self (S_inj q)
      simp [PyData.eqv, this]
    have ih := idx_strs ls ms (j + 1) fun l hl => h l (List.mem_cons_of_mem _ hl)
    rw [List.cons_append, List.map_cons, idxOf, e]
    simp only [Bool.false_eq_true, if_false]
    rw [ih, List.length_cons]
    congr 1
    omega
theorem pyL_strP (ls : List (List Nat)) : pyL (ls.map strP) = some (ls.map fun l => PyData.str (S l)) := by
  induction ls with
  | nil => rfl
  | cons l ls ih => rw [List.map_cons, List.map_cons, pyL, ih]; rfl
end Pw
namespace Pw
open PySem PySem.Spec PyProof.Rows L2 Ms SX
section
variable {n : Nat} {G : List MO} {x0 x1 x2 x3 x4 x5 x6 x7 x8 : Slot}
theorem t11_ok (ns : List Int) (k : Nat) (hk : k < 100) (hG : OkN n G) : ∃ G', t_law_11 ⟨[.val (.scr ns), .val (.int k), x2, x3, x4, x5, x6, x7, x8], G⟩ = .ok .nx ⟨[.val (.scr ns), .val (.int k), .val (.ref n), x3, x4, x5, x6, x7, x8], G'⟩ ∧ OkN (n + 1) G' := by
  obtain ⟨G', e, o⟩ := bag_ok ns k hk hG
  exact ⟨G', by simp [t_law_11, e], o⟩
theorem t10_ok {g : Nat} (hg : g < n) (hG : OkN n G) : ∃ (l : List Sp) (G' : List MO), t_law_10 ⟨[x0, x1, .val (.ref g), x3, x4, x5, x6, x7, x8], G⟩ = .ok .nx ⟨[x0, x1, .val (.ref g), .val (.tup (l.map spD)), x4, x5, x6, x7, x8], G'⟩ ∧ PgOk 8 l ∧ OkN n G' := by
  obtain ⟨l, G', e, hp, o⟩ := lpage_ok 8 8 9 rfl rfl (by omega) hG hg
  exact ⟨l, G', by simp [t_law_10, e], hp, o⟩
theorem t9_ok {l : List Sp} (h : PgOk 8 l) : t_law_9 ⟨[x0, x1, x2, .val (.tup (l.map spD)), x4, x5, x6, x7, x8], G⟩ = .ok .nx ⟨[x0, x1, x2, .val (.tup (l.map spD)), x4, x5, x6, x7, x8], G⟩ := by
  have hl := h.len
  have e1 := spans_text_ok G h.v (by omega)
  have e2 := law_spans_ok G h.v (by omega)
  have h1 := spsTxt_len h.v
  have e3 := read_spans_ok (a := spsTxt l) G (fun c hc => by have := plain_sps h.v c hc; omega) (by omega)
  rw [spansOf_txt h.v, if_neg (by simp [D.isNon])] at e3
  have e4 := fun s => eqD_same (n := 2) s (okN_spds h.v) (by omega)
  generalize l.map spD = L at *
  simp [t_law_9, e1, e2, e3, e4]
theorem t8_ok {g : Nat} (hg : g < n) (hG : OkN n G) : ∃ (rs : List Rec) (G' : List MO), t_law_8 ⟨[x0, x1, .val (.ref g), x3, x4, x5, x6, x7, x8], G⟩ = .ok .nx ⟨[x0, x1, .val (.ref g), x3, .own (.lst (rs.map recD)), x5, .no, x7, x8], G'⟩ ∧ (∀ r ∈ rs, RecOk r) ∧ rs.length ≤ 12 ∧ OkN n G' := by
  obtain ⟨r, G1, e1, a1, b1, o1⟩ := take 12 hG hg (by omega) (by decide)
  obtain ⟨k, hk⟩ := Int.eq_ofNat_of_zero_le a1
  have hr2 := rng_ok hk (by omega)
  obtain ⟨ys, G2, e2, l2, p2, o2⟩ := comp_inv (vs := [6]) (mi := M.range1 [(M.call m__law_take [(M.var 2), (M.lit (.int 12))])]) (t := .one 6) (e := M.call m__law_record [(M.var 2)]) (s := ⟨[x0, x1, .val (.ref g), x3, x4, x5, x6, x7, x8], G⟩) (s1 := ⟨[x0, x1, .val (.ref g), x3, x4, x5, x6, x7, x8], G1⟩)
    (ρ := [x0, x1, .val (.ref g), x3, x4, x5, .no, x7, x8]) (G := G1) (I := OkN n) (P := fun y => ∃ s, RecOk s ∧ y = recD s) (ds := rngD 0 k) (by simp [e1, -rng1K_int, hr2]) (lenOk_of (by rw [rngD_len]; omega)) rfl o1 fun d _ G hG => by
      obtain ⟨s, G', e, hs, o⟩ := record_ok hG hg
      exact ⟨recD s, G', ⟨[x0, x1, .val (.ref g), x3, x4, x5, .val d, x7, x8], G⟩, ⟨[x0, x1, .val (.ref g), x3, x4, x5, .val d, x7, x8], G'⟩, rfl, by simp [e], recD_own s, rfl, ⟨s, hs, rfl⟩, o⟩
  obtain ⟨rs, rfl, hz⟩ := choose_list p2
  rw [List.length_map, rngD_len] at l2
  have e2 : c_law_3 ⟨[x0, x1, .val (.ref g), x3, x4, x5, x6, x7, x8], G⟩ = .ok (rs.map recD) ⟨[x0, x1, .val (.ref g), x3, x4, x5, .no, x7, x8], G2⟩ := e2
  exact ⟨rs, G2, by simp [t_law_8, e2], hz, by omega, o2⟩
theorem zed_nm : nameB (Str.ofString "zed") = true := by decide +kernel
theorem t7_ok {g : Nat} {rs : List Rec} (hg : g < n) (hG : OkN n G) (hr : ∀ r ∈ rs, RecOk r) (hl : rs.length ≤ 12) : ∃ (rs' : List Rec) (G' : List MO), t_law_7 ⟨[x0, x1, .val (.ref g), x3, .own (.lst (rs.map recD)), x5, x6, x7, x8], G⟩ = .ok .nx ⟨[x0, x1, .val (.ref g), x3, .own (.lst (rs'.map recD)), x5, x6, x7, x8], G'⟩ ∧ (∀ r ∈ rs', RecOk r) ∧ rs'.length ≤ 13 ∧ rs' ≠ [] ∧ OkN n G' := by
  obtain ⟨r, G1, e1, a1, b1, o1⟩ := take 999991 hG hg (by omega) (by decide)
  obtain ⟨zs, G2, e2, a2, b2, c2, o2⟩ := ltext_ok 9 9 rfl (by omega) (by omega) o1 hg
  have p1 : gPow 10 6 = some (.int 1000000) := gPow_e (i := 10) (j := 6) (by omega)
  have hln : lenOk (rs.length + 1) = true := lenOk_of (by omega)
  refine ⟨rs ++ [.pour (Str.ofString "zed") r zs], G2, ?_, fun x hx => ?_, by simp; omega, by simp, o2⟩
  · simp [t_law_7, p1, e1, e2, show lenOk 4 = true from rfl, hln, recD, s_pour]
  · rcases List.mem_append.mp hx with q | q
    · exact hr x q
    · simp at q
      subst q
      exact ⟨zed_nm, a1, by omega, by omega, a2, by omega, c2⟩
theorem t6_ok {rs : List Rec} (hr : ∀ r ∈ rs, RecOk r) (hl : rs.length ≤ 1000) : t_law_6 ⟨[x0, x1, x2, x3, .own (.lst (rs.map recD)), x5, x6, x7, x8], G⟩ = .ok .nx ⟨[x0, x1, x2, x3, .val (.lst (rs.map recD)), .own (.lst ((rs.map recTxt).map strP)), x6, .no, x8], G⟩ := by
  have cc : c_law_2 ⟨[x0, x1, x2, x3, .own (.lst (rs.map recD)), x5, x6, x7, x8], G⟩ = .ok ((rs.map recTxt).map strP) ⟨[x0, x1, x2, x3, .val (.lst (rs.map recD)), x5, x6, .no, x8], G⟩ := by
    rw [List.map_map]
    refine comp_mapA (f := recD) (fun r => strP (recTxt r)) (s1 := ⟨[x0, x1, x2, x3, .val (.lst (rs.map recD)), x5, x6, x7, x8], G⟩) (by simp) (lenOk_of (by omega)) rfl fun r hr2 => ?_
    have ow : ∀ (k : D → Sta → Out (List D)) (st : Sta), outK k (recD r) st = k (recD r) st := fun _ _ => outK_no (recD_own r)
    exact ⟨⟨[x0, x1, x2, x3, .val (.lst (rs.map recD)), x5, x6, .val (recD r), x8], G⟩, ⟨[x0, x1, x2, x3, .val (.lst (rs.map recD)), x5, x6, .val (recD r), x8], G⟩, rfl, by simp [law_line_ok G (hr r hr2), ow, strP], rfl, rfl⟩
  simp [t_law_6, cc]
theorem recs_ln {rs : List Rec} (hr : ∀ r ∈ rs, RecOk r) (h0 : rs ≠ []) (hl : rs.length ≤ 1000) : LnOk (rs.map recTxt) := ⟨by simpa using h0, by simpa using hl, fun l hl => by
  obtain ⟨o, ho, rfl⟩ := List.mem_map.mp hl
  exact ⟨rec_line (hr o ho), rec_len (hr o ho)⟩⟩
theorem t5_ok {rs : List Rec} (hr : ∀ r ∈ rs, RecOk r) (h0 : rs ≠ []) (hl : rs.length ≤ 1000) : t_law_5 ⟨[x0, x1, x2, x3, .val (.lst (rs.map recD)), .own (.lst ((rs.map recTxt).map strP)), x6, .no, x8], G⟩ = .ok .nx ⟨[x0, x1, x2, x3, .val (.lst (rs.map recD)), .own (.lst ((rs.map recTxt).map strP)), x6, .no, x8], G⟩ := by
  have hn := recs_ln hr h0 hl
  have cc : c_law_1 ⟨[x0, x1, x2, x3, .val (.lst (rs.map recD)), .own (.lst ((rs.map recTxt).map strP)), x6, .no, x8], G⟩ = .ok ((rs.map recTxt).map strP) ⟨[x0, x1, x2, x3, .val (.lst (rs.map recD)), .own (.lst ((rs.map recTxt).map strP)), x6, .no, x8], G⟩ := by
    generalize hO : (rs.map recTxt).map strP = O
    have : (rs.map fun r => strP (recTxt r)) = O := by rw [← hO, List.map_map]; rfl
    rw [← this]
    refine comp_mapA (f := recD) (fun r => strP (recTxt r)) (s1 := ⟨[x0, x1, x2, x3, .val (.lst (rs.map recD)), .own (.lst (rs.map fun r => strP (recTxt r))), x6, .no, x8], G⟩) (by simp) (lenOk_of (by omega)) rfl fun r hr2 => ?_
    have ow : ∀ (k : D → Sta → Out (List D)) (st : Sta), outK k (recD r) st = k (recD r) st := fun _ _ => outK_no (recD_own r)
    exact ⟨⟨[x0, x1, x2, x3, .val (.lst (rs.map recD)), .own (.lst (rs.map fun r => strP (recTxt r))), x6, .val (recD r), x8], G⟩, ⟨[x0, x1, x2, x3, .val (.lst (rs.map recD)), .own (.lst (rs.map fun r => strP (recTxt r))), x6, .val (recD r), x8], G⟩, rfl, by simp [record_text_ok G (hr r hr2), ow, strP], rfl, rfl⟩
  have e1 := records_text_ok G hr hl
  have e2 := fun (s : Sta) (h : s.ρ[5]? = some (.own (.lst ((rs.map recTxt).map strP)))) => (joinD_own (a := S [10]) h).trans (ln10 hn)
  have e3 := fun (s : Sta) (h : s.ρ[5]? = some (.own (.lst ((rs.map recTxt).map strP)))) => eqD_own h (okN_strP hn.2.2) (by omega)
  generalize rs.map recTxt = L at *
  generalize rs.map recD = R at *
  generalize L.map strP = L2 at *
  simp [t_law_5, s_row, e1, e2, e3, cc]
end
end Pw
namespace Pw
open PySem PySem.Spec PyProof.Rows L2 Ms SX
section
variable {n : Nat} {G : List MO} {x0 x1 x2 x3 x4 x5 x6 x7 x8 : Slot}
theorem lenD_own {s : Sta} {i : Nat} {l : List D} (h : s.ρ[i]? = some (.own (.lst l))) : lenD s (.own i) = some l.length := by
  have e : (D.own i).seqL s = some l := by rw [seqL_own, h]
  show ((D.own i).seqL s).map (·.length) = _
  rw [e]
  rfl
theorem read_rec_line {r : Rec} (G : List MO) (h : RecOk r) : m_read_record [.str (S (recTxt r))] G = .ok (recD r) G := by
  have e := read_record_ok (a := recTxt r) G (line_cp (rec_line h)) (by have := rec_len h; omega)
  rw [recordOf_txt h, recD_isNon, if_neg (by simp)] at e
  exact e
theorem read_all {os : List (Option Rec)} (G : List MO) (h : OsOk os) (h0 : os ≠ []) (hl : os.length ≤ 1000) : m_read_records [.str (S (joi 10 (os.map txtO)))] G = .ok (.lst ((os.filterMap id).map recD)) G := by
  have hn := h.ln h0 hl
  have e := read_records_ok G hn.lines (by have := hn.len; omega)
  have e2 := readL_os os 0 [] [] h
  rw [List.append_nil] at e2
  rw [hn.read, e2] at e
  exact e
theorem somes (rs : List Rec) : (rs.map some).map txtO = rs.map recTxt ∧ (rs.map some).filterMap id = rs := by
  constructor
  · rw [List.map_map]; rfl
  · simp
theorem t4_ok {rs : List Rec} (hr : ∀ r ∈ rs, RecOk r) (h0 : rs ≠ []) (hl : rs.length ≤ 1000) : t_law_4 ⟨[x0, x1, x2, x3, .val (.lst (rs.map recD)), .own (.lst ((rs.map recTxt).map strP)), x6, .no, x8], G⟩ = .ok .nx ⟨[x0, x1, x2, x3, .val (.lst (rs.map recD)), .own (.lst ((rs.map recTxt).map strP)), x6, .no, .no], G⟩ := by
  have hn := recs_ln hr h0 hl
  have cc : c_law_0 ⟨[x0, x1, x2, x3, .val (.lst (rs.map recD)), .own (.lst ((rs.map recTxt).map strP)), x6, .no, x8], G⟩ = .ok (rs.map recD) ⟨[x0, x1, x2, x3, .val (.lst (rs.map recD)), .own (.lst ((rs.map recTxt).map strP)), x6, .no, .no], G⟩ := by
    have key : ∀ qs : List Rec, (∀ r ∈ qs, RecOk r) → M.compL [8] (.one 8) (pure true) (M.call m_read_record [(M.var 8)]) ((qs.map recTxt).map strP) ⟨[x0, x1, x2, x3, .val (.lst (rs.map recD)), .no, x6, .no, .no], G⟩ = .ok (qs.map recD) ⟨[x0, x1, x2, x3, .val (.lst (rs.map recD)), .no, x6, .no, .no], G⟩ := by
      intro qs
      induction qs with
      | nil => exact fun _ => rfl
      | cons r qs ih =>
        intro h
        exact compL_t (s1 := ⟨[x0, x1, x2, x3, .val (.lst (rs.map recD)), .no, x6, .no, .val (strP (recTxt r))], G⟩) (s2 := ⟨[x0, x1, x2, x3, .val (.lst (rs.map recD)), .no, x6, .no, .val (strP (recTxt r))], G⟩) (s3 := ⟨[x0, x1, x2, x3, .val (.lst (rs.map recD)), .no, x6, .no, .val (strP (recTxt r))], G⟩) rfl rfl
          (by simp [strP, read_rec_line G (h r List.mem_cons_self)]) (recD_own r) (ih fun q hq => h q (List.mem_cons_of_mem _ hq))
    have hk := key rs hr
    have hln : lenOk (((rs.map recTxt).map strP).length + 1) = true := lenOk_of (by simp; omega)
    unfold c_law_0 M.compOwn
    show (if lenOk (((rs.map recTxt).map strP).length + 1) = true then _ else _) = _
    rw [if_pos hln]
    show (match M.compL [8] (.one 8) (pure true) (M.call m_read_record [(M.var 8)]) ((rs.map recTxt).map strP) ⟨[x0, x1, x2, x3, .val (.lst (rs.map recD)), .no, x6, .no, .no], G⟩ with
      | .ok ys s' => _
      | _ => _) = _
    rw [hk]
    rfl
  have e1 := read_all (os := rs.map some) G (fun o ho r e => by
    obtain ⟨q, hq, rfl⟩ := List.mem_map.mp ho
    cases e
    exact hr r hq) (by simpa using h0) (by simpa using hl)
  rw [(somes rs).1, (somes rs).2] at e1
  have e2 := fun (s : Sta) (h : s.ρ[5]? = some (.own (.lst ((rs.map recTxt).map strP)))) => (joinD_own (a := S [10]) h).trans (ln10 hn)
  have e3 := fun s => eqD_same (d := .lst (rs.map recD)) s (okN_recs hr) (by omega)
  generalize rs.map recTxt = L at *
  generalize rs.map recD = R at *
  generalize L.map strP = L2 at *
  simp [t_law_4, s_row, e1, e2, e3, cc]
/-- the state while blank lines are put in -/
def Sts (n : Nat) (x0 x1 x3 x7 x8 : Slot) (g : Nat) (rs : List Rec) (m : Nat) (s : Sta) : Prop := ∃ (os : List (Option Rec)) (x6 : Slot) (G : List MO), s = ⟨[x0, x1, .val (.ref g), x3, .val (.lst (rs.map recD)), .own (.lst ((os.map txtO).map strP)), x6, x7, x8], G⟩ ∧ OsOk os ∧ os.filterMap id = rs ∧ os ≠ [] ∧ os.length ≤ m ∧ OkN n G
theorem l0_ok {g m : Nat} {rs : List Rec} {s : Sta} (d : D) (hg : g < n) (hm : m ≤ 900) (h : Sts n x0 x1 x3 x7 x8 g rs m s) : ∃ s1 s2, M.bindTo (.one 6) d s = .ok .nx s1 ∧ l_law_0 s1 = .ok .nx s2 ∧ Sts n x0 x1 x3 x7 x8 g rs (m + 1) s2 := by
  obtain ⟨os, x6, G, rfl, h1, h2, h3, h4, o⟩ := h
  obtain ⟨r, G1, e1, a1, b1, o1⟩ := take (((os.map txtO).map strP).length + 1 : Int) o hg (by omega) (Int.lt_trans (b := 2 ^ 20) (by simp; omega) (by decide))
  obtain ⟨k, rfl⟩ := Int.eq_ofNat_of_zero_le a1
  have hi := insF_ok k (.str (S [])) ((os.map txtO).map strP) (by simp; omega) (by simp at b1; omega)
  refine ⟨⟨[x0, x1, .val (.ref g), x3, .val (.lst (rs.map recD)), .own (.lst ((os.map txtO).map strP)), .val d, x7, x8], G⟩, ⟨[x0, x1, .val (.ref g), x3, .val (.lst (rs.map recD)), .own (.lst (((os.take k ++ [none] ++ os.drop k).map txtO).map strP)), .val d, x7, x8], G1⟩, rfl, ?_, os.take k ++ [none] ++ os.drop k, .val d, G1, rfl, h1.ins k, (ins_fm k).trans h2, by simp, by rw [ins_len]; omega, o1⟩
  have em : (((os.take k ++ [none] ++ os.drop k).map txtO).map strP) = ((os.map txtO).map strP).take k ++ [.str (S [])] ++ ((os.map txtO).map strP).drop k := by
    simp only [List.map_append, List.map_take, List.map_drop]
    rfl
  rw [em]
  generalize (os.map txtO).map strP = L at *
  have hL := fun (s : Sta) (h : s.ρ[5]? = some (.own (.lst L))) => lenD_own h
  simp [l_law_0, hL, e1, hi, s_nul]
end
end Pw
namespace Pw
open PySem PySem.Spec PyProof.Rows L2 Ms SX
section
variable {n : Nat} {G : List MO} {x0 x1 x2 x3 x4 x5 x6 x7 x8 : Slot}
theorem t3_ok {g : Nat} {rs : List Rec} (hg : g < n) (hG : OkN n G) (hr : ∀ r ∈ rs, RecOk r) (h0 : rs ≠ []) (hl : rs.length ≤ 100) : ∃ s', t_law_3 ⟨[x0, x1, .val (.ref g), x3, .val (.lst (rs.map recD)), .own (.lst ((rs.map recTxt).map strP)), x6, x7, x8], G⟩ = .ok .nx s' ∧ Sts n x0 x1 x3 x7 x8 g rs 200 s' := by
  obtain ⟨r, G1, e1, a1, b1, o1⟩ := take 5 hG hg (by omega) (by decide)
  obtain ⟨k, hk⟩ := Int.eq_ofNat_of_zero_le a1
  have hr2 := rng_ok hk (by omega)
  have hos : OsOk (rs.map some) := fun o ho r e => by
    obtain ⟨q, hq, rfl⟩ := List.mem_map.mp ho
    cases e
    exact hr r hq
  have lp : ∀ (ds : List D) (m : Nat) (s : Sta), m + ds.length ≤ 200 → Sts n x0 x1 x3 x7 x8 g rs m s → ∃ s', M.forL (.one 6) l_law_0 ds s = .ok .nx s' ∧ Sts n x0 x1 x3 x7 x8 g rs 200 s' := by
    intro ds
    induction ds with
    | nil =>
      intro m s hm ⟨os, x6, G, e, h1, h2, h3, h4, h5⟩
      exact ⟨s, rfl, os, x6, G, e, h1, h2, h3, by simp at hm; omega, h5⟩
    | cons d ds ih =>
      intro m s hm h
      simp at hm
      obtain ⟨s1, s2, f1, f2, f3⟩ := l0_ok d hg (by omega) h
      obtain ⟨s', f4, f5⟩ := ih (m + 1) s2 (by omega) f3
      exact ⟨s', by rw [forL_nx f1 f2]; exact f4, f5⟩
  obtain ⟨s', e2, h2⟩ := lp (rngD 0 k) 100 ⟨[x0, x1, .val (.ref g), x3, .val (.lst (rs.map recD)), .own (.lst ((rs.map recTxt).map strP)), x6, x7, x8], G1⟩ (by rw [rngD_len]; omega) ⟨rs.map some, x6, G1, by rw [(somes rs).1], hos, (somes rs).2, by simpa using h0, by simpa using hl, o1⟩
  refine ⟨s', ?_, h2⟩
  simp [t_law_3, e1, -rng1K_int, hr2, e2, -List.map_map]
theorem t2_ok {g : Nat} {rs : List Rec} {s : Sta} (h : Sts n x0 x1 x3 x7 x8 g rs 200 s) : t_law_2 s = .ok .nx s := by
  obtain ⟨os, x6, G, rfl, h1, h2, h3, h4, o⟩ := h
  have hn := h1.ln h3 (by omega)
  have e1 := read_all G h1 h3 (by omega)
  rw [h2] at e1
  have hr : ∀ r ∈ rs, RecOk r := fun r hr => by
    rw [← h2] at hr
    obtain ⟨o, ho, e⟩ := List.mem_filterMap.mp hr
    exact h1 o ho r e
  have e2 := fun (s : Sta) (h : s.ρ[5]? = some (.own (.lst ((os.map txtO).map strP)))) => (joinD_own (a := S [10]) h).trans (ln10 hn)
  have e3 := fun s => eqD_same (d := .lst (rs.map recD)) s (okN_recs hr) (by omega)
  generalize os.map txtO = L at *
  generalize rs.map recD = R at *
  generalize L.map strP = L2 at *
  simp [t_law_2, s_row, e1, e2, e3]
def End (n : Nat) (x0 x1 x3 x4 x7 x8 : Slot) (g : Nat) (s : Sta) : Prop := ∃ (os ps : List (Option Rec)) (x6 : Slot) (G : List MO), s = ⟨[x0, x1, .val (.ref g), x3, x4, .own (.lst ((os.map txtO ++ [32] :: ps.map txtO).map strP)), x6, x7, x8], G⟩ ∧ OsOk os ∧ OsOk ps ∧ os.length + ps.length ≤ 200 ∧ OkN n G
theorem t1_ok {g : Nat} {rs : List Rec} {s : Sta} (hg : g < n) (h : Sts n x0 x1 x3 x7 x8 g rs 200 s) : ∃ s', t_law_1 s = .ok .nx s' ∧ End n x0 x1 x3 (.val (.lst (rs.map recD))) x7 x8 g s' := by
  obtain ⟨os, x6, G, rfl, h1, h2, h3, h4, o⟩ := h
  obtain ⟨r, G1, e1, a1, b1, o1⟩ := take (((os.map txtO).map strP).length + 1 : Int) o hg (by omega) (Int.lt_trans (b := 2 ^ 20) (by simp; omega) (by decide))
  obtain ⟨k, rfl⟩ := Int.eq_ofNat_of_zero_le a1
  have hi := insF_ok k (.str (S [32])) ((os.map txtO).map strP) (by simp; omega) (by simp at b1; omega)
  refine ⟨⟨[x0, x1, .val (.ref g), x3, .val (.lst (rs.map recD)), .own (.lst (((os.take k).map txtO ++ [32] :: (os.drop k).map txtO).map strP)), x6, x7, x8], G1⟩, ?_, os.take k, os.drop k, x6, G1, rfl, fun o ho => h1 o (List.mem_of_mem_take ho), fun o ho => h1 o (List.mem_of_mem_drop ho), by rw [List.length_take, List.length_drop]; omega, o1⟩
  have em : (((os.take k).map txtO ++ [32] :: (os.drop k).map txtO).map strP) = ((os.map txtO).map strP).take k ++ [.str (S [32])] ++ ((os.map txtO).map strP).drop k := by
    simp only [List.map_append, List.map_take, List.map_drop, List.map_cons, List.append_assoc, List.cons_append, List.nil_append]
    rfl
  rw [em]
  generalize (os.map txtO).map strP = L at *
  have hL := fun (s : Sta) (h : s.ρ[5]? = some (.own (.lst L))) => lenD_own h
  simp [t_law_1, hL, e1, hi, s_bla]
theorem t0_ok {g : Nat} {s : Sta} (h : End n x0 x1 x3 x4 x7 x8 g s) : t_law_0 s = .ok .nx s := by
  obtain ⟨os, ps, x6, G, rfl, h1, h2, h3, o⟩ := h
  have hn : LnOk (os.map txtO ++ [32] :: ps.map txtO) := ⟨by simp, by simp; omega, fun l hl => by
    simp only [List.mem_append, List.mem_cons] at hl
    rcases hl with q | rfl | q
    · obtain ⟨o, ho, rfl⟩ := List.mem_map.mp q
      exact txtO_line (h1 o ho)
    · exact ⟨by unfold LineC; simp, by simp⟩
    · obtain ⟨o, ho, rfl⟩ := List.mem_map.mp q
      exact txtO_line (h2 o ho)⟩
  have e0 := readL_os os 0 [] ([32] :: ps.map txtO) h1
  have e01 : ∀ (i : Nat) (acc : List D), readL i ([32] :: ps.map txtO) acc = .inr (i + 1) := fun i acc => by
    have e : (recordOf [32]).isNon = true := by decide +kernel
    show (if ([32] : List Nat) = [] then readL (i + 1) (ps.map txtO) acc else if (recordOf [32]).isNon = true then Sum.inr (i + 1) else readL (i + 1) (ps.map txtO) (acc ++ [recordOf [32]])) = _
    rw [if_neg (by simp), e, if_pos rfl]
  rw [e01, Nat.zero_add] at e0
  have e1 := no_text_exc o.1 hn.lines (by have := hn.len; omega) (hn.read.trans e0)
  have e2 := fun (s : Sta) (h : s.ρ[5]? = some (.own (.lst ((os.map txtO ++ [32] :: ps.map txtO).map strP)))) => (joinD_own (a := S [10]) h).trans (ln10 hn)
  have e3 : ∀ s : Sta, s.ρ[5]? = some (.own (.lst ((os.map txtO ++ [32] :: ps.map txtO).map strP))) → indexD s (.own 5) (.str (S [32])) = some (.int (os.length : Nat)) := fun s h => by
    have ho := okN_strP hn.2.2
    obtain ⟨p, q1, q2, q3⟩ := okN_py ho
    have q4 : D.py (.lst ((os.map txtO ++ [32] :: ps.map txtO).map strP)) = some (.list ((os.map txtO ++ [32] :: ps.map txtO).map fun l => PyData.str (S l))) := by
      show (pyL _).map PyData.list = _
      rw [pyL_strP]
      rfl
    rw [q4] at q1
    cases q1
    have q5 := shaped_of q2 q3 (by omega)
    have q6 : SeqAt.shaped (.str (S [32])) = true := by decide +kernel
    have q7 := idx_strs (os.map txtO) (ps.map txtO) 0 fun l hl => by
      obtain ⟨o, ho, rfl⟩ := List.mem_map.mp hl
      cases o with
      | none => simp [txtO]
      | some r => exact rec_32 (h1 _ ho r rfl)
    unfold indexD
    rw [pyS_own h]
    show (match D.py (.lst ((os.map txtO ++ [32] :: ps.map txtO).map strP)), D.py (.str (S [32])) with | some (.list ds), some d => if SeqAt.shaped (.list ds) && SeqAt.shaped d then (idxOf ds d 0).map fun n => D.int (n : Nat) else none | _, _ => none) = _
    rw [q4]
    show (if SeqAt.shaped (.list ((os.map txtO ++ [32] :: ps.map txtO).map fun l => PyData.str (S l))) && SeqAt.shaped (.str (S [32])) then _ else _) = _
    rw [q5, q6, Bool.and_self, if_pos rfl, q7]
    simp
  have e4 : ∀ (s : Sta) (k : Int), eqD s (.tup [.str (Str.ofString "told NoText+"), .int k]) (.tup [.str (Str.ofString "told NoText+"), .int k]) = some true := fun s k => eqD_same (n := 1) s (okN_tup fun d hd => by
    simp at hd
    rcases hd with rfl | rfl
    · decide +kernel
    · rfl) (by omega)
  generalize (os.map txtO ++ [32] :: ps.map txtO).map strP = L2 at *
  simp [t_law_0, s_row, s_bla, e1, e2, e3, e4, lenOk]
end
/-- what holds before each of law's turns -/
def Turn (ns : List Int) (s : Sta) : Prop := ∃ (x1 x2 x3 x4 x5 x6 x7 x8 : Slot) (G : List MO), s = ⟨[.val (.scr ns), x1, x2, x3, x4, x5, x6, x7, x8], G⟩ ∧ Ok G
theorem turn_ok (ns : List Int) (k : Nat) (hk : k < 100) (s : Sta) (h : Turn ns s) : ∃ s1 s2, M.bindTo (.one 1) (.int k) s = .ok .nx s1 ∧ l_law_1 s1 = .ok .nx s2 ∧ Turn ns s2 := by
  obtain ⟨x1, x2, x3, x4, x5, x6, x7, x8, G, rfl, hG⟩ := h
  obtain ⟨G1, e11, o1⟩ := t11_ok (n := G.length) (G := G) (x2 := x2) (x3 := x3) (x4 := x4) (x5 := x5) (x6 := x6) (x7 := x7) (x8 := x8) ns k hk ⟨hG, rfl⟩
  obtain ⟨l, G2, e10, hp, o2⟩ := t10_ok (g := G.length) (x0 := .val (.scr ns)) (x1 := .val (.int k)) (x3 := x3) (x4 := x4) (x5 := x5) (x6 := x6) (x7 := x7) (x8 := x8) (by omega) o1
  have e9 := t9_ok (G := G2) (x0 := .val (.scr ns)) (x1 := .val (.int k)) (x2 := .val (.ref G.length)) (x4 := x4) (x5 := x5) (x6 := x6) (x7 := x7) (x8 := x8) hp
  obtain ⟨rs, G3, e8, hr, hl, o3⟩ := t8_ok (g := G.length) (x0 := .val (.scr ns)) (x1 := .val (.int k)) (x3 := .val (.tup (l.map spD))) (x4 := x4) (x5 := x5) (x6 := x6) (x7 := x7) (x8 := x8) (by omega) o2
  obtain ⟨rs, G4, e7, hr, hl, h0, o4⟩ := t7_ok (g := G.length) (x0 := .val (.scr ns)) (x1 := .val (.int k)) (x3 := .val (.tup (l.map spD))) (x5 := x5) (x6 := .no) (x7 := x7) (x8 := x8) (by omega) o3 hr hl
  have e6 := t6_ok (G := G4) (x0 := .val (.scr ns)) (x1 := .val (.int k)) (x2 := .val (.ref G.length)) (x3 := .val (.tup (l.map spD))) (x5 := x5) (x6 := .no) (x7 := x7) (x8 := x8) hr (by omega)
  have e5 := t5_ok (G := G4) (x0 := .val (.scr ns)) (x1 := .val (.int k)) (x2 := .val (.ref G.length)) (x3 := .val (.tup (l.map spD))) (x6 := .no) (x8 := x8) hr h0 (by omega)
  have e4 := t4_ok (G := G4) (x0 := .val (.scr ns)) (x1 := .val (.int k)) (x2 := .val (.ref G.length)) (x3 := .val (.tup (l.map spD))) (x6 := .no) (x8 := x8) hr h0 (by omega)
  obtain ⟨s3, e3, h3⟩ := t3_ok (g := G.length) (x0 := .val (.scr ns)) (x1 := .val (.int k)) (x3 := .val (.tup (l.map spD))) (x6 := .no) (x7 := .no) (x8 := .no) (by omega) o4 hr h0 (by omega)
  have e2 := t2_ok h3
  obtain ⟨s1, e1, hE⟩ := t1_ok (by omega) h3
  have e0 := t0_ok hE
  refine ⟨_, s1, rfl, ?_, ?_⟩
  · unfold l_law_1
    exact (seq_nx e11).trans ((seq_nx e10).trans ((seq_nx e9).trans ((seq_nx e8).trans ((seq_nx e7).trans ((seq_nx e6).trans ((seq_nx e5).trans ((seq_nx e4).trans ((seq_nx e3).trans ((seq_nx e2).trans ((seq_nx e1).trans e0))))))))))
  · obtain ⟨os, ps, x6, G, rfl, _, _, _, o⟩ := hE
    exact ⟨_, _, _, _, _, _, _, _, _, rfl, o.1⟩
theorem law_loop (ns : List Int) : ∀ (m a : Nat) (s : Sta), a + m ≤ 100 → Turn ns s → ∃ s', M.forL (.one 1) l_law_1 (rngD a m) s = .ok .nx s' ∧ Turn ns s'
  | 0, a, s, _, h => ⟨s, rfl, h⟩
  | m + 1, a, s, hm, h => by
    obtain ⟨s1, s2, e1, e2, h2⟩ := turn_ok ns a (by omega) s h
    obtain ⟨s', e3, h3⟩ := law_loop ns m (a + 1) s2 (by omega) h2
    refine ⟨s', ?_, h3⟩
    have er : rngD (a : Nat) (m + 1) = .int (a : Nat) :: rngD ((a + 1 : Nat) : Int) m := by
      unfold rngD
      rw [List.range_succ_eq_map, List.map_cons, List.map_map]
      have e1 : ((a : Int) + ((0 : Nat) : Int)) = (a : Nat) := by omega
      rw [e1]
      congr 1
      apply List.map_congr_left
      intro i _
      show D.int _ = D.int _
      congr 1
      simp only [Nat.succ_eq_add_one]
      omega
    rw [er, forL_nx e1 e2]
    exact e3
theorem law_true (ns : List Int) (hn : ns.length ≤ 63) : ∃ G', m_law [.scr ns] [] = .ok (.bl true) G' := by
  have c0 : ∀ ρ : List Slot, M.or2 (M.bool (M.op2 fNe (M.call m_records_text [(M.lst (M.disp []))]) (M.lit (.str "")))) (M.or2 (M.bool (M.op2 fNe (M.call m_read_records [(M.lit (.str ""))]) (M.lst (M.disp [])))) (M.or2 (M.bool (M.op2 fNe (M.call m_spans_text [(M.tup [])]) (M.lit (.str "-")))) (M.bool (M.op2 fNe (M.call m_read_spans [(M.lit (.str "-"))]) (M.tup []))))) ⟨ρ, []⟩ = .ok false ⟨ρ, []⟩ := by
    intro ρ
    kernel_rfl
  have hm : ∃ m : Nat, m ≤ 16 ∧ rng1K [.int (1 + (if (15 : Int) < (ns.length : Nat) then 15 else ((ns.length : Nat) : Int)))] ⟨[.val (.scr ns), .no, .no, .no, .no, .no, .no, .no, .no], []⟩ = .ok (rngD 0 m) ⟨[.val (.scr ns), .no, .no, .no, .no, .no, .no, .no, .no], []⟩ := by
    by_cases h : (15 : Int) < (ns.length : Nat)
    · rw [if_pos h]
      exact ⟨16, by omega, rfl⟩
    · rw [if_neg h]
      exact ⟨1 + ns.length, by omega, rng_ok (k := 1 + ns.length) (by omega) (by omega) _⟩
  obtain ⟨m, h1, h2⟩ := hm
  obtain ⟨s', e1, ⟨x1, x2, x3, x4, x5, x6, x7, x8, G, e2, _⟩⟩ := law_loop ns m 0 ⟨[.val (.scr ns), .no, .no, .no, .no, .no, .no, .no, .no], []⟩ (by omega) ⟨_, _, _, _, _, _, _, _, _, rfl, Ok.nil⟩
  subst e2
  refine ⟨G, ?_⟩
  have e1 : M.forL (.one 1) l_law_1 (rngD 0 m) ⟨[.val (.scr ns), .no, .no, .no, .no, .no, .no, .no, .no], []⟩ = _ := e1
  simp [m_law, b_law, -e_or2, c0, -rng1K_int, h2, e1]
end Pw
namespace Pw
open PySem PySem.Spec PyProof.Rows L2 Ms
theorem rep0 {C : RC} {H : Hp} : Rep C (fun _ => False) [] ⟨[], []⟩ [] H := by
  refine ⟨rfl, fun i sl e => ?_, fun i j oi oj a e => ?_, rfl, fun g o e => ?_, List.nodup_nil, fun a h => (by cases h), fun a h => h.elim⟩
  · have e : ([] : List Ms.Slot)[i]? = some sl := e
    simp at e
  · have e : ([] : List Ms.Slot)[i]? = some (.own oi) := e
    simp at e
  · have e : ([] : List MO)[g]? = some o := e
    simp at e
theorem goal {K : PySem.W.Frag} {mg : Str → Option Value} (H : Hp) (a : Addr) (ns : List Int) (hn : ns.length ≤ 63) (hS : SqL K H a (ns.map V.int)) : spOf (RC0 K mg) 1 m_law [.ref a] H (fun v _ => v = .bl true) (fun _ _ _ => False) := by
  obtain ⟨G', e⟩ := law_true ns hn
  refine ⟨rfl, fun _ => False, [], [], [.scr ns], rep0, .cons (.scr ?_) .nil, ?_⟩
  · rcases hS with h | h
    · refine .inl ⟨fun t => ?_, h⟩
      rcases t with t | t | ⟨i, o, e1, _⟩
      · exact t
      · cases t
      · have e1 : ([] : List Ms.Slot)[i]? = some (.own o) := e1
        simp at e1
    · exact .inr fun H' => .inr h
  · unfold ResF
    rw [e]
    exact fun v μ' H' _ hv => hv.bl_inv
def CXa (P : Program) : CXT := fun o H s E u s' => ∃ w, L2N.CX P w o H s E u s'
theorem toA {P : Program} {w : World} {K : PySem.W.Frag} {mg : Str → Option Value} {base : Heap} {k : Nat} {f : Addr} {fd : FuncData} {ps : List Str} {sp : L2.Sp} (F : FnOk P w K mg base (CXn P w) k f fd ps sp) : FnOk P w K mg base (CXa P) k f fd ps sp :=
  ⟨F.len, fun A outer s H args us vs Q E hr he hb hv hs => codeAny_mono (F.run A outer s H args us vs Q E hr he hb hv hs) fun r s' h => by
    cases r with
    | error e => exact ⟨w, h⟩
    | ok v => cases v <;> exact h⟩
end Pw
open PySem PySem.W PySem.Calls PyProof.Rows
theorem PySem.Challenge.cw_spanloom_k46_records_as_texts_holds : PySem.Challenge.rw_spanloom_k46_records_as_texts.Holds := by
  w_on; o_law
  refine HandSHeadRun.head_any (r := OpenLaw.row PySem.Challenge.rw_spanloom_k46_records_as_texts) (q := view (OpenLaw.row PySem.Challenge.rw_spanloom_k46_records_as_texts).prog [92]) (H := Pw.hk) (ob := Pw.ob) (M := 20000) (loose := Pw.loose) (d := HandSHeadRun.topDef (OpenLaw.row PySem.Challenge.rw_spanloom_k46_records_as_texts).prog 92) (kwd := []) Pw.ob_eq
    (by kernel_rfl) (fun s => by kernel_rfl) Pw.hrun (by kernel_rfl) (by kernel_rfl) (by kernel_rfl) (by rfl) (by first | assumption | decide +kernel) (by decide +kernel) ⟨rfl, rfl, rfl, rfl, rfl, by decide +kernel⟩ ?hw ?hc
  case hw => w_witness2
  case hc =>
    refine L2.walk_ofE (l := PySem.Challenge.rw_spanloom_k46_records_as_texts) (n := 63) (k := 10) (x := "script") (CX := Pw.CXa (PySem.Challenge.rw_spanloom_k46_records_as_texts).prog) rfl (by decide) (by kernel_rfl) ⟨rfl, by decide, by decide⟩ ?F (fun _ _ _ _ ⟨_, _, _, _, _, _, _, _, _, _, _, _, _, h⟩ => h)
    intro w mg fa h Y G hmg0
    obtain ⟨K, KX, c⟩ := Y
    have hmg : mg ("law" : PySem.Str) = some (.ref fa) := by
      have e : (HandSHeadRun.topDef (OpenLaw.row PySem.Challenge.rw_spanloom_k46_records_as_texts).prog 92).name = ("law" : PySem.Str) := by kernel_rfl
      rw [← e]
      exact hmg0
    obtain ⟨fd, F⟩ := c.def_ 60 (d := Pw.d_law) rfl
    have b := L2.FunD.bindsA (ps := ["script"]) F fun _ _ _ _ _ _ us hl => match us, hl with | [_], _ => rfl
    have eg : mg ("law" : PySem.Str) = some (.ref (He.ga K "law")) := (Ms.Env.glo (base := h) ⟨c, h, KX, G⟩ 0 (xs := Pw.glos) (List.elem_iff.mp (by decide +kernel)) rfl)
    have ea : fa = He.ga K "law" := by
      have e := hmg.symm.trans eg
      cases e
      rfl
    subst ea
    refine ⟨K, fd, Ms.spOf (Ms.RC0 K mg) 1 Pw.m_law, KX, fun s v => b s [v] rfl, fun H a ns hl _ hS => Pw.goal H a ns hl hS, fun base _ _ => Pw.toA ?_⟩
    exact Ms.fnD F Pw.sc_law (by decide) (fun cdv A outer s H EE hr tk => Pw.bd_law ⟨c, h, KX, G⟩ hr tk)
