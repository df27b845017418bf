import PyProof.Rows.All
import Wide.All
import OpenK.AllK
import Wide.FinOn
import HandS.ForMost
import HandS.ForExc
import HandS.Conv
import HandS.Defaults
import HandS.MakeKw
import HandS.MakeKwOnly
import HandS.CallSlots
import HandS.Wide
import HandS.TupAny
import HandS.Strs
import HandS.Style
import HandS.SortInts
import HandS.SortRule
import HandS.Flow
import HandS.Deep
import HandS.Rev
import KE.DataMinMax
import HandS.SortOrd
import KE.KSortedM
import KE.KIndexOf
import KE.GoesEnum
import HandS.Words
import HandS.More
import KE.KExcSuper
import HandS.ForSpec
import HandS.ExcField
import HandS.TryOnly
import HandS.IsInst
import HandS.RaiseMore
import KE.KExcIs
import PySem.Challenge.RW_turnedvalleys_k58_high_stones_alone
set_option Elab.async false
set_option linter.all false
set_option maxRecDepth 100000
set_option maxHeartbeats 4000000
/-! Tv1: values as trees, lists and dicts owned by one name each; what it means that a state of the layer bears an environment of such values. -/
namespace TV
open PySem PySem.Spec PyProof.Rows L2

inductive D where
  | non | bl (b : Bool) | int (i : Int) | str (x : Str)
  | tup (xs : List D) | ins (c : Nat) (fs : List D) | frl (xs : List D)
  | lst (xs : List D) | dic (ks : List Key) (vs : List D)

def D.own : D → Bool
  | .lst _ => true
  | .dic _ _ => true
  | _ => false

/-- what never changes -/
def fixO : HO → Bool
  | .tup _ => true
  | .frz _ _ => true
  | .ins _ _ _ => true
  | .xd _ => true
  | _ => false
def Fix (H H' : Hp) : Prop := ∀ b o, H b = some o → fixO o = true → H' b = some o
theorem Fix.refl {H : Hp} : Fix H H := fun _ _ h _ => h
theorem Fix.trans {H H1 H2 : Hp} (a : Fix H H1) (b : Fix H1 H2) : Fix H H2 := fun c o h f => b c o (a c o h f) f
/-- the written part, the classes' addresses and their fields; pin: what stands beside the names and stays -/
structure GG where
  K : PySem.W.Frag
  cl : Nat → Addr
  nm : Nat → List Str
  pin : Hp → Prop
  pinOk : ∀ H H' : Hp, Fix H H' → pin H → pin H'
  slot : Option Nat
  sval : V
  hot : Bool
abbrev GG.of (K : PySem.W.Frag) (cl : Nat → Addr) (nm : Nat → List Str) : GG := ⟨K, cl, nm, fun _ => True, fun _ _ _ _ => trivial, none, .non, false⟩
/-- no slot is kept -/
class NoSlot (G : GG) : Prop where
  h : G.slot = none
  c : G.hot = false
instance {K : PySem.W.Frag} {cl : Nat → Addr} {nm : Nat → List Str} : NoSlot (GG.of K cl nm) := ⟨rfl, rfl⟩

/-- a list that nobody changes: locked, or of the written part -/
def FrL (K : PySem.W.Frag) (H : Hp) (a : Addr) (xs : List V) : Prop :=
  (∃ o, H a = some (.frz o (.lst xs))) ∨
    ∃ (o : Obj) (its : Array Value) (n : Nat), K.lookup a = some o ∧ o.cls = .type "list" ∧ o.dict = none ∧ o.data = .seq its n ∧ its.size ≤ sizeLine ∧ Vals xs its.toList
theorem FrL.sql {K : PySem.W.Frag} {H : Hp} {a : Addr} {xs : List V} (h : FrL K H a xs) : SqL K H a xs := by
  rcases h with ⟨o, h⟩ | h
  · exact .inl (.inr ⟨o, h⟩)
  · exact .inr h
/-- a tuple: its one object is known, and has no dict -/
def TupS (K : PySem.W.Frag) (H : Hp) (a : Addr) (xs : List V) : Prop :=
  (∃ o : Obj, H a = some (.frz o (.tup xs)) ∧ o.cls = .type "tuple" ∧ o.dict = none) ∨
    ∃ (o : Obj) (its : Array Value) (n : Nat), K.lookup a = some o ∧ o.cls = .type "tuple" ∧ o.dict = none ∧ o.data = .seq its n ∧ its.size ≤ sizeLine ∧ Vals xs its.toList
theorem TupS.sqt {K : PySem.W.Frag} {H : Hp} {a : Addr} {xs : List V} (h : TupS K H a xs) : SqT K H a xs := by
  rcases h with ⟨o, h, _, _⟩ | ⟨o, its, n, h1, h2, _, h3⟩
  · exact .inl (.inr ⟨o, h⟩)
  · exact .inr ⟨o, its, n, h1, h2, h3⟩
mutual
/-- a shared value -/
inductive RV (G : GG) (H : Hp) : D → V → Prop
  | non : RV G H .non .non
  | bl (b : Bool) : RV G H (.bl b) (.bl b)
  | int (i : Int) : RV G H (.int i) (.int i)
  | str (x : Str) : RV G H (.str x) (.str x)
  | tup {ds : List D} {a : Addr} {vs : List V} (h : TupS G.K H a vs) (r : RVs G H ds vs) : RV G H (.tup ds) (.ref a)
  | ins {c : Nat} {fs : List D} {a dx : Addr} {vs : List V} (h : H a = some (.ins (G.cl c) dx ((G.nm c).zip vs))) (l : (G.nm c).length = vs.length) (r : RVs G H fs vs) : RV G H (.ins c fs) (.ref a)
  | frl {ds : List D} {a : Addr} {vs : List V} (h : FrL G.K H a vs) (r : RVs G H ds vs) : RV G H (.frl ds) (.ref a)
inductive RVs (G : GG) (H : Hp) : List D → List V → Prop
  | nil : RVs G H [] []
  | cons {d : D} {ds : List D} {v : V} {vs : List V} (h : RV G H d v) (r : RVs G H ds vs) : RVs G H (d :: ds) (v :: vs)
end

theorem Fix.tupS {K : PySem.W.Frag} {H H' : Hp} {a : Addr} {vs : List V} (k : Fix H H') (h : TupS K H a vs) : TupS K H' a vs := by
  rcases h with ⟨o, h, r⟩ | h
  · exact .inl ⟨o, k _ _ h rfl, r⟩
  · exact .inr h
theorem Fix.frl {K : PySem.W.Frag} {H H' : Hp} {a : Addr} {vs : List V} (k : Fix H H') (h : FrL K H a vs) : FrL K H' a vs := by
  rcases h with ⟨o, h⟩ | h
  · exact .inl ⟨o, k _ _ h rfl⟩
  · exact .inr h
mutual
theorem RV.mono {G : GG} {H H' : Hp} (k : Fix H H') : ∀ {d : D} {v : V}, RV G H d v → RV G H' d v
  | _, _, .non => .non
  | _, _, .bl b => .bl b
  | _, _, .int i => .int i
  | _, _, .str x => .str x
  | _, _, .tup h r => .tup (k.tupS h) (RVs.mono k r)
  | _, _, .ins h l r => .ins (k _ _ h rfl) l (RVs.mono k r)
  | _, _, .frl h r => .frl (k.frl h) (RVs.mono k r)
theorem RVs.mono {G : GG} {H H' : Hp} (k : Fix H H') : ∀ {ds : List D} {vs : List V}, RVs G H ds vs → RVs G H' ds vs
  | _, _, .nil => .nil
  | _, _, .cons h r => .cons (RV.mono k h) (RVs.mono k r)
end
mutual
theorem RV.re {G G' : GG} {H : Hp} (h1 : G'.K = G.K) (h2 : G'.cl = G.cl) (h3 : G'.nm = G.nm) : ∀ {d : D} {v : V}, RV G H d v → RV G' H d v
  | _, _, .non => .non
  | _, _, .bl b => .bl b
  | _, _, .int i => .int i
  | _, _, .str x => .str x
  | _, _, .tup h r => .tup (by rw [h1]; exact h) (RVs.re h1 h2 h3 r)
  | _, _, .ins (dx := dx) h l r => .ins (dx := dx) (by rw [h2, h3]; exact h) (by rw [h3]; exact l) (RVs.re h1 h2 h3 r)
  | _, _, .frl h r => .frl (by rw [h1]; exact h) (RVs.re h1 h2 h3 r)
theorem RVs.re {G G' : GG} {H : Hp} (h1 : G'.K = G.K) (h2 : G'.cl = G.cl) (h3 : G'.nm = G.nm) : ∀ {ds : List D} {vs : List V}, RVs G H ds vs → RVs G' H ds vs
  | _, _, .nil => .nil
  | _, _, .cons h r => .cons (RV.re h1 h2 h3 h) (RVs.re h1 h2 h3 r)
end
theorem RVs.length {G : GG} {H : Hp} : ∀ {ds : List D} {vs : List V}, RVs G H ds vs → ds.length = vs.length
  | _, _, .nil => rfl
  | _, _, .cons _ r => congrArg Nat.succ r.length
theorem RVs.get {G : GG} {H : Hp} : ∀ {ds : List D} {vs : List V} {i : Nat} {d : D}, RVs G H ds vs → ds[i]? = some d → ∃ v, vs[i]? = some v ∧ RV G H d v
  | _, _, _, _, .nil, e => by simp at e
  | _, _, 0, _, .cons h _, e => by simp at e; subst e; exact ⟨_, rfl, h⟩
  | _, _, i + 1, _, .cons _ r, e => by
    obtain ⟨v, e1, e2⟩ := r.get (by simpa using e)
    exact ⟨v, by simpa using e1, e2⟩
theorem RVs.getV {G : GG} {H : Hp} : ∀ {ds : List D} {vs : List V} {i : Nat} {v : V}, RVs G H ds vs → vs[i]? = some v → ∃ d, ds[i]? = some d ∧ RV G H d v
  | _, _, _, _, .nil, e => by simp at e
  | _, _, 0, _, .cons h _, e => by simp at e; subst e; exact ⟨_, rfl, h⟩
  | _, _, i + 1, _, .cons _ r, e => by
    obtain ⟨v, e1, e2⟩ := r.getV (by simpa using e)
    exact ⟨v, by simpa using e1, e2⟩
theorem RVs.app {G : GG} {H : Hp} : ∀ {ds es : List D} {vs ws : List V}, RVs G H ds vs → RVs G H es ws → RVs G H (ds ++ es) (vs ++ ws)
  | _, _, _, _, .nil, s => s
  | _, _, _, _, .cons h r, s => .cons h (r.app s)
theorem RVs.take {G : GG} {H : Hp} : ∀ {ds : List D} {vs : List V} (n : Nat), RVs G H ds vs → RVs G H (ds.take n) (vs.take n)
  | _, _, 0, _ => .nil
  | _, _, _ + 1, .nil => .nil
  | _, _, n + 1, .cons h r => .cons h (r.take n)
theorem RVs.drop {G : GG} {H : Hp} : ∀ {ds : List D} {vs : List V} (n : Nat), RVs G H ds vs → RVs G H (ds.drop n) (vs.drop n)
  | _, _, 0, r => r
  | _, _, _ + 1, .nil => .nil
  | _, _, n + 1, .cons _ r => r.drop n
theorem RVs.set {G : GG} {H : Hp} {d : D} {v : V} (q : RV G H d v) : ∀ {ds : List D} {vs : List V} (i : Nat), RVs G H ds vs → RVs G H (ds.set i d) (vs.set i v)
  | _, _, _, .nil => .nil
  | _, _, 0, .cons _ r => .cons q r
  | _, _, i + 1, .cons h r => .cons h (r.set q i)
theorem RVs.eraseIdx {G : GG} {H : Hp} : ∀ {ds : List D} {vs : List V} (i : Nat), RVs G H ds vs → RVs G H (ds.eraseIdx i) (vs.eraseIdx i)
  | _, _, _, .nil => .nil
  | _, _, 0, .cons _ r => r
  | _, _, i + 1, .cons h r => .cons h (r.eraseIdx i)
theorem RVs.dropLast {G : GG} {H : Hp} {ds : List D} {vs : List V} (r : RVs G H ds vs) : RVs G H ds.dropLast vs.dropLast := by
  rw [List.dropLast_eq_take, List.dropLast_eq_take, r.length]
  exact r.take _
theorem RVs.reverse {G : GG} {H : Hp} : ∀ {ds : List D} {vs : List V}, RVs G H ds vs → RVs G H ds.reverse vs.reverse
  | _, _, .nil => .nil
  | _, _, .cons h r => by
    rw [List.reverse_cons, List.reverse_cons]
    exact r.reverse.app (.cons h .nil)
theorem RVs.none_iff {G : GG} {H : Hp} {ds : List D} {vs : List V} {i : Nat} (r : RVs G H ds vs) (h : ds[i]? = none) : vs[i]? = none := by
  have := r.length
  rw [List.getElem?_eq_none_iff] at h ⊢
  omega
/-- the lists of plain values -/
theorem RVs.ints {G : GG} {H : Hp} : ∀ {ns : List Int} {vs : List V}, RVs G H (ns.map D.int) vs → vs = ns.map V.int
  | [], _, .nil => rfl
  | n :: ns, _, .cons h r => by
    cases h
    rw [r.ints]
    rfl
theorem RVs.of_ints {G : GG} {H : Hp} : ∀ (ns : List Int), RVs G H (ns.map D.int) (ns.map V.int)
  | [] => .nil
  | n :: ns => .cons (.int n) (RVs.of_ints ns)

/-! ### values that a name may own -/
def RS (G : GG) (H : Hp) : D → V → Prop
  | .lst ds, v => ∃ a vs, v = .ref a ∧ H a = some (.lst vs) ∧ RVs G H ds vs
  | .dic ks ds, v => ∃ a vs, v = .ref a ∧ H a = some (.dK (ks.zip vs)) ∧ ks.length = ds.length ∧ RVs G H ds vs
  | d, v => RV G H d v
theorem RS.rv {G : GG} {H : Hp} {d : D} {v : V} (h : RS G H d v) (o : d.own = false) : RV G H d v := by
  cases d <;> first | exact h | cases o
theorem RV.rs {G : GG} {H : Hp} {d : D} {v : V} (h : RV G H d v) : RS G H d v := by
  cases h with
  | non => exact .non
  | bl b => exact .bl b
  | int i => exact .int i
  | str x => exact .str x
  | tup h r => exact .tup h r
  | ins h l r => exact .ins h l r
  | frl h r => exact .frl h r
theorem RV.plain {G : GG} {H : Hp} {d : D} {v : V} (h : RV G H d v) : d.own = false := by
  cases h <;> rfl
/-- an owned value stands at an address with something that may change -/
theorem RS.at {G : GG} {H : Hp} {d : D} {v : V} (h : RS G H d v) (o : d.own = true) : ∃ a u, v = .ref a ∧ H a = some u ∧ fixO u = false := by
  cases d with
  | lst ds => obtain ⟨a, vs, e, q, _⟩ := h; exact ⟨a, _, e, q, rfl⟩
  | dic ks ds => obtain ⟨a, vs, e, q, _⟩ := h; exact ⟨a, _, e, q, rfl⟩
  | _ => cases o
theorem RS.keep {G : GG} {H H' : Hp} {d : D} {v : V} (h : RS G H d v) (k : Fix H H') (q : ∀ a o, v = .ref a → d.own = true → H a = some o → H' a = some o) : RS G H' d v := by
  cases d with
  | lst ds => obtain ⟨a, vs, rfl, e, r⟩ := h; exact ⟨a, vs, rfl, q _ _ rfl rfl e, r.mono k⟩
  | dic ks ds => obtain ⟨a, vs, rfl, e, l, r⟩ := h; exact ⟨a, vs, rfl, q _ _ rfl rfl e, l, r.mono k⟩
  | _ => exact RV.rs (RV.mono k (RS.rv h rfl))

theorem RS.re {G G' : GG} {H : Hp} (h1 : G'.K = G.K) (h2 : G'.cl = G.cl) (h3 : G'.nm = G.nm) {d : D} {v : V} (h : RS G H d v) : RS G' H d v := by
  cases d with
  | lst ds => obtain ⟨a, vs, e, q, r⟩ := h; exact ⟨a, vs, e, q, r.re h1 h2 h3⟩
  | dic ks ds => obtain ⟨a, vs, e, q, l, r⟩ := h; exact ⟨a, vs, e, q, l, r.re h1 h2 h3⟩
  | _ => exact RV.rs (RV.re h1 h2 h3 (RS.rv h rfl))

/-! ### environments -/
abbrev Env := List (Option D)
structure RE (G : GG) (ρ : Env) (σ : L2.St) (H : Hp) : Prop where
  len : ρ.length = σ.length
  val : ∀ (i : Nat) (d : D), ρ[i]? = some (some d) → ∃ v, σ[i]? = some (some v) ∧ RS G H d v
  sep : ∀ (i j : Nat) (d e : D) (a : Addr), ρ[i]? = some (some d) → ρ[j]? = some (some e) → d.own = true → e.own = true → σ[i]? = some (some (.ref a)) → σ[j]? = some (some (.ref a)) → i = j
  pin : G.pin H
  spin : ∀ i, G.slot = some i → σ[i]? = some (some G.sval)
theorem RE.noSpin {G : GG} [n : NoSlot G] {σ : L2.St} : ∀ i, G.slot = some i → σ[i]? = some (some G.sval) := fun i h => by
  rw [n.h] at h
  cases h
/-- the addresses that the names own -/
def own (ρ : Env) (σ : L2.St) (a : Addr) : Prop := ∃ (i : Nat) (d : D), ρ[i]? = some (some d) ∧ d.own = true ∧ σ[i]? = some (some (.ref a))
/-- from one state to another: what is owned by no name stays, and stays so -/
def Fr (ρ : Env) (σ : L2.St) (H : Hp) (ρ' : Env) (σ' : L2.St) (H' : Hp) : Prop := ∀ (b : Addr) (o : HO), H b = some o → ¬ own ρ σ b → H' b = some o ∧ ¬ own ρ' σ' b
theorem Fr.refl {ρ : Env} {σ : L2.St} {H : Hp} : Fr ρ σ H ρ σ H := fun _ _ h n => ⟨h, n⟩
theorem Fr.trans {ρ ρ1 ρ2 : Env} {σ σ1 σ2 : L2.St} {H H1 H2 : Hp} (a : Fr ρ σ H ρ1 σ1 H1) (b : Fr ρ1 σ1 H1 ρ2 σ2 H2) : Fr ρ σ H ρ2 σ2 H2 := fun c o h n => b c o (a c o h n).1 (a c o h n).2
theorem RE.unowned {G : GG} {ρ : Env} {σ : L2.St} {H : Hp} (r : RE G ρ σ H) {b : Addr} {o : HO} (h : H b = some o) (f : fixO o = true) : ¬ own ρ σ b := by
  rintro ⟨i, d, e1, e2, e3⟩
  obtain ⟨v, e4, q⟩ := r.val i d e1
  rw [e3] at e4
  cases e4
  obtain ⟨a, u, e5, e6, e7⟩ := q.at e2
  cases e5
  rw [h] at e6
  cases e6
  rw [f] at e7
  cases e7
theorem Fr.fix {G : GG} {ρ ρ' : Env} {σ σ' : L2.St} {H H' : Hp} (f : Fr ρ σ H ρ' σ' H') (r : RE G ρ σ H) : Fix H H' := fun b o h x => (f b o h (r.unowned h x)).1
/-- what an owned address bears -/
theorem RE.there {G : GG} {ρ : Env} {σ : L2.St} {H : Hp} (r : RE G ρ σ H) {a : Addr} (h : own ρ σ a) : ∃ u, H a = some u ∧ fixO u = false := by
  obtain ⟨i, d, e1, e2, e3⟩ := h
  obtain ⟨v, e4, q⟩ := r.val i d e1
  rw [e3] at e4
  cases e4
  obtain ⟨b, u, e5, e6, e7⟩ := q.at e2
  cases e5
  exact ⟨u, e6, e7⟩
/-- a result: what it owns is new, or was a name's and is no more -/
def Res (G : GG) (ρ : Env) (σ : L2.St) (H : Hp) (ρ' : Env) (σ' : L2.St) (H' : Hp) (d : D) (v : V) : Prop :=
  RS G H' d v ∧ ∀ a, v = .ref a → d.own = true → ¬ own ρ' σ' a ∧ (H a = none ∨ own ρ σ a)
theorem Res.of_rv {G : GG} {ρ ρ' : Env} {σ σ' : L2.St} {H H' : Hp} {d : D} {v : V} (h : RV G H' d v) : Res G ρ σ H ρ' σ' H' d v :=
  ⟨h.rs, fun a _ o => by rw [h.plain] at o; cases o⟩
theorem RE.re {G G' : GG} {ρ : Env} {σ : L2.St} {H : Hp} (h1 : G'.K = G.K) (h2 : G'.cl = G.cl) (h3 : G'.nm = G.nm) (p : G'.pin H) (sp : ∀ i, G'.slot = some i → σ[i]? = some (some G'.sval)) (r : RE G ρ σ H) : RE G' ρ σ H :=
  ⟨r.len, fun i d e => let ⟨v, e1, q⟩ := r.val i d e; ⟨v, e1, q.re h1 h2 h3⟩, r.sep, p, sp⟩
theorem Res.re {G G' : GG} {ρ ρ' : Env} {σ σ' : L2.St} {H H' : Hp} {d : D} {v : V} (h1 : G'.K = G.K) (h2 : G'.cl = G.cl) (h3 : G'.nm = G.nm) (r : Res G ρ σ H ρ' σ' H' d v) : Res G' ρ σ H ρ' σ' H' d v := ⟨r.1.re h1 h2 h3, r.2⟩
/-- a result stays through a later step -/
theorem Res.later {G : GG} {ρ ρ1 ρ2 : Env} {σ σ1 σ2 : L2.St} {H H1 H2 : Hp} {d : D} {v : V} (h : Res G ρ σ H ρ1 σ1 H1 d v) (r : RE G ρ1 σ1 H1) (f : Fr ρ1 σ1 H1 ρ2 σ2 H2) : Res G ρ σ H ρ2 σ2 H2 d v := by
  obtain ⟨q, n⟩ := h
  refine ⟨q.keep (f.fix r) fun a o e w z => (f a o z (n a e w).1).1, fun a e w => ?_⟩
  obtain ⟨b, u, e1, e2, _⟩ := q.at w
  rw [e] at e1
  cases e1
  exact ⟨(f a u e2 (n a e w).1).2, (n a e w).2⟩
/-- a step ahead of it -/
theorem Res.ahead {G : GG} {ρ ρ1 ρ2 : Env} {σ σ1 σ2 : L2.St} {H H1 H2 : Hp} {d : D} {v : V} (h : Res G ρ1 σ1 H1 ρ2 σ2 H2 d v) (f : Fr ρ σ H ρ1 σ1 H1) : Res G ρ σ H ρ2 σ2 H2 d v := by
  refine ⟨h.1, fun a e w => ⟨(h.2 a e w).1, ?_⟩⟩
  by_cases q : own ρ σ a
  · exact .inr q
  · refine .inl ?_
    cases z : H a with
    | none => rfl
    | some o =>
      obtain ⟨z1, z2⟩ := f a o z q
      rcases (h.2 a e w).2 with y | y
      · rw [z1] at y
        cases y
      · exact absurd y z2
end TV

/-! Tv2: what code computes on environments (R), and the judgements that a piece of the text computes it. -/
namespace TV
open PySem PySem.Spec PyProof.Rows L2

inductive R (α : Type) where
  | ok (a : α) | exc (c : Nat) (w : D) (ρ : Env) | stuck
def R.bind {α β : Type} : R α → (α → R β) → R β
  | .ok a, f => f a
  | .exc c w ρ, _ => .exc c w ρ
  | .stuck, _ => .stuck
inductive Out where
  | nx | rt (d : D) | bk | ct
abbrev ME := Env → R (D × Env)
abbrev MT := Env → R (Bool × Env)
abbrev MS := Env → R (Out × Env)

/-- slots beyond A stay -/
def SameBut (A : List Nat) (σ σ' : L2.St) : Prop := ∀ i : Nat, i ∉ A → σ'[i]? = σ[i]?
theorem SameBut.refl {A : List Nat} {σ : L2.St} : SameBut A σ σ := fun _ _ => rfl
theorem SameBut.trans {A B : List Nat} {σ σ1 σ2 : L2.St} (a : SameBut A σ σ1) (b : SameBut B σ1 σ2) : SameBut (A ++ B) σ σ2 := fun i h => by
  rw [List.mem_append, not_or] at h
  rw [b i h.2, a i h.1]
theorem SameBut.nil {σ σ' : L2.St} (a : SameBut [] σ σ') : σ' = σ := List.ext_getElem? fun i => a i (fun h => nomatch h)

def wexc (G : GG) (W : WX) (A : List Nat) (ρ : Env) (σ : L2.St) (H : Hp) (c : Nat) (w : D) (ρ' : Env) : Prop :=
  ∀ (σ' : L2.St) (H' : Hp) (dd : Addr) (fs : List (Str × V)) (v : V), RE G ρ' σ' H' → Fr ρ σ H ρ' σ' H' → SameBut A σ σ' → H' dd = some (.xd fs) → fs.lookup ("what" : Str) = some v → RV G H' w v → W (.ref (G.cl c)) (some dd) σ' H'
theorem wexc.later {G : GG} {W : WX} {A B : List Nat} {ρ ρ1 ρ' : Env} {σ σ1 : L2.St} {H H1 : Hp} {c : Nat} {w : D} (h : wexc G W (A ++ B) ρ σ H c w ρ') (f : Fr ρ σ H ρ1 σ1 H1) (s : SameBut A σ σ1) : wexc G W B ρ1 σ1 H1 c w ρ' :=
  fun σ' H' dd fs v r g t e1 e2 e3 => h σ' H' dd fs v r (f.trans g) (s.trans t) e1 e2 e3

def postE (G : GG) (W : WX) (ρ : Env) (σ : L2.St) (H : Hp) (Q : VK) : R (D × Env) → Prop
  | .ok (d, ρ') => ∀ v H', RE G ρ' σ H' → Fr ρ σ H ρ' σ H' → Res G ρ σ H ρ' σ H' d v → Q v H'
  | .exc c w ρ' => wexc G W [] ρ σ H c w ρ'
  | .stuck => False
def postT (G : GG) (W : WX) (ρ : Env) (σ : L2.St) (H : Hp) (Q : Bool → Hp → Prop) : R (Bool × Env) → Prop
  | .ok (b, ρ') => ∀ H', RE G ρ' σ H' → Fr ρ σ H ρ' σ H' → Q b H'
  | .exc c w ρ' => wexc G W [] ρ σ H c w ρ'
  | .stuck => False
def postS (G : GG) (W : WX) (A : List Nat) (ρ : Env) (σ : L2.St) (H : Hp) (E : Ends) : R (Out × Env) → Prop
  | .ok (.nx, ρ') => ∀ σ' H', RE G ρ' σ' H' → Fr ρ σ H ρ' σ' H' → SameBut A σ σ' → E.nx σ' H'
  | .ok (.bk, ρ') => ∀ σ' H', RE G ρ' σ' H' → Fr ρ σ H ρ' σ' H' → SameBut A σ σ' → E.bk σ' H'
  | .ok (.ct, ρ') => ∀ σ' H', RE G ρ' σ' H' → Fr ρ σ H ρ' σ' H' → SameBut A σ σ' → E.ct σ' H'
  | .ok (.rt d, ρ') => ∀ v σ' H', RE G ρ' σ' H' → Fr ρ σ H ρ' σ' H' → SameBut A σ σ' → Res G ρ σ H ρ' σ' H' d v → E.rt v H'
  | .exc c w ρ' => wexc G W A ρ σ H c w ρ'
  | .stuck => False
def rdE (G : GG) (W : WX) (m : ME) : TE := fun σ H Q => ∃ ρ, RE G ρ σ H ∧ postE G W ρ σ H Q (m ρ)
def rdT (G : GG) (W : WX) (m : MT) : TT := fun σ H Q => ∃ ρ, RE G ρ σ H ∧ postT G W ρ σ H Q (m ρ)
def rdS (G : GG) (W : WX) (A : List Nat) (m : MS) : TS := fun E σ H => ∃ ρ, RE G ρ σ H ∧ postS G W A ρ σ H E (m ρ)

theorem postE.ahead {G : GG} {W : WX} {ρ ρ1 : Env} {σ : L2.St} {H H1 : Hp} {Q : VK} {r : R (D × Env)} (h : postE G W ρ σ H Q r) (f : Fr ρ σ H ρ1 σ H1) : postE G W ρ1 σ H1 Q r := by
  cases r with
  | ok p => exact fun v H' q g s => h v H' q (f.trans g) (s.ahead f)
  | exc c w ρ' => exact wexc.later (A := []) (B := []) h f SameBut.refl
  | stuck => exact h
theorem postT.ahead {G : GG} {W : WX} {ρ ρ1 : Env} {σ : L2.St} {H H1 : Hp} {Q : Bool → Hp → Prop} {r : R (Bool × Env)} (h : postT G W ρ σ H Q r) (f : Fr ρ σ H ρ1 σ H1) : postT G W ρ1 σ H1 Q r := by
  cases r with
  | ok p => exact fun H' q g => h H' q (f.trans g)
  | exc c w ρ' => exact wexc.later (A := []) (B := []) h f SameBut.refl
  | stuck => exact h
theorem postS.ahead {G : GG} {W : WX} {A B : List Nat} {ρ ρ1 : Env} {σ σ1 : L2.St} {H H1 : Hp} {E : Ends} {r : R (Out × Env)} (h : postS G W (A ++ B) ρ σ H E r) (f : Fr ρ σ H ρ1 σ1 H1) (t : SameBut A σ σ1) : postS G W B ρ1 σ1 H1 E r := by
  cases r with
  | ok p =>
    obtain ⟨o, ρ'⟩ := p
    cases o with
    | nx => exact fun σ' H' q g s => h σ' H' q (f.trans g) (t.trans s)
    | bk => exact fun σ' H' q g s => h σ' H' q (f.trans g) (t.trans s)
    | ct => exact fun σ' H' q g s => h σ' H' q (f.trans g) (t.trans s)
    | rt d => exact fun v σ' H' q g s z => h v σ' H' q (f.trans g) (t.trans s) (z.ahead f)
  | exc c w ρ' => exact wexc.later h f t
  | stuck => exact h

abbrev SE (X : Cx) (G : GG) (W : WX) (e : Expr) (m : ME) : Prop := PE X e (rdE G W m)
abbrev ST (X : Cx) (G : GG) (W : WX) (e : Expr) (m : MT) : Prop := PT X e (rdT G W m)
abbrev SS (X : Cx) (G : GG) (W : WX) (st : Stmt) (A : List Nat) (m : MS) : Prop := PS X st (rdS G W A m)
abbrev SSs (X : Cx) (G : GG) (W : WX) (st : List Stmt) (A : List Nat) (m : MS) : Prop := PSs X st (rdS G W A m)

theorem pe_wk {X : Cx} {e : Expr} {t t' : TE} (h : PE X e t) (f : ∀ σ H Q, t' σ H Q → t σ H Q) : PE X e t' := ⟨fun pins s σ H Q I q => h.run pins s σ H Q I (f σ H Q q)⟩
theorem pt_wk {X : Cx} {e : Expr} {t t' : TT} (h : PT X e t) (f : ∀ σ H Q, t' σ H Q → t σ H Q) : PT X e t' := ⟨fun pins s σ H Q I q => h.run pins s σ H Q I (f σ H Q q)⟩
theorem ps_wk {X : Cx} {e : Stmt} {t t' : TS} (h : PS X e t) (f : ∀ E σ H, t' E σ H → t E σ H) : PS X e t' := ⟨fun pins s σ H E I q => h.run pins s σ H E I (f E σ H q)⟩
theorem pss_wk {X : Cx} {e : List Stmt} {t t' : TS} (h : PSs X e t) (f : ∀ E σ H, t' E σ H → t E σ H) : PSs X e t' := ⟨fun pins s σ H E I q => h.run pins s σ H E I (f E σ H q)⟩

/-- what holds around -/
structure CT (X : Cx) (G : GG) (W : WX) : Prop where
  k : G.K = X.K
  calm : G.hot = false → X.calm = true
  tk : Takes X W
  po : PassesOwn (model X.prog X.w) X.A X.env X.xe
  nd : X.N.Nodup
  un : X.A.units + 64 < cLine

/-- all that was tracked is there as it was -/
theorem RE.same {G : GG} {ρ : Env} {σ : L2.St} {H H' : Hp} (r : RE G ρ σ H) (k : Same H H') : RE G ρ σ H' :=
  ⟨r.len, fun i d e => by
    obtain ⟨v, e1, q⟩ := r.val i d e
    exact ⟨v, e1, q.keep (fun b o h _ => k b o h) fun a o _ _ h => k a o h⟩, r.sep, G.pinOk H H' (fun b o h _ => k b o h) r.pin, r.spin⟩
theorem Fr.same {ρ : Env} {σ : L2.St} {H H' : Hp} (k : Same H H') : Fr ρ σ H ρ σ H' := fun b o h n => ⟨k b o h, n⟩
/-- something new -/
theorem Res.new {G : GG} {ρ : Env} {σ : L2.St} {H H' : Hp} {d : D} {v : V} (r : RE G ρ σ H) (q : RS G H' d v) (n : ∀ a, v = .ref a → d.own = true → H a = none) : Res G ρ σ H ρ σ H' d v :=
  ⟨q, fun a e w => ⟨fun z => (by
    obtain ⟨u, h, _⟩ := r.there z
    rw [n a e w] at h
    cases h), .inl (n a e w)⟩⟩

/-! ### operands: names are looked at when all are reckoned -/
/-- p: what is asked of the value where it is come to -/
inductive Opd where
  | var (i : Nat) (p : D → Bool) | tmp (m : ME) (p : D → Bool)
def Met (G : GG) (p : D → Bool) (x : V) (H : Hp) : Prop := ∃ d, p d = true ∧ RS G H d x
def tO (G : GG) (W : WX) : Opd → TE
  | .var i p => fun σ H Q => tVar i σ H fun x H1 => Met G p x H1 ∧ Q x H1
  | .tmp m p => fun σ H Q => rdE G W m σ H fun x H1 => Met G p x H1 ∧ Q x H1
abbrev SO (X : Cx) (G : GG) (W : WX) (e : Expr) (o : Opd) : Prop := PE X e (tO G W o)
def tOs (G : GG) (W : WX) : List Opd → TA
  | [] => tNil
  | o :: os => tCons (tO G W o) (tOs G W os)
def chk {α : Type} (b : Bool) (r : R α) : R α := if b = true then r else .stuck
def ev : List Opd → Env → R (List (Option D) × Env)
  | [], ρ => .ok ([], ρ)
  | .var i p :: os, ρ => match ρ[i]? with
    | some (some d) => chk (p d) ((ev os ρ).bind fun q => .ok (none :: q.1, q.2))
    | _ => .stuck
  | .tmp m p :: os, ρ => (m ρ).bind fun q => chk (p q.1) ((ev os q.2).bind fun r => .ok (some q.1 :: r.1, r.2))
def rds : List Opd → List (Option D) → Env → Option (List D)
  | [], [], _ => some []
  | .var i _ :: os, _ :: xs, ρ => match ρ[i]? with
    | some (some d) => (rds os xs ρ).map (d :: ·)
    | _ => none
  | .tmp _ _ :: os, some d :: xs, ρ => (rds os xs ρ).map (d :: ·)
  | _, _, _ => none
inductive RSs (G : GG) (H : Hp) : List D → List V → Prop
  | nil : RSs G H [] []
  | cons {d : D} {ds : List D} {v : V} {vs : List V} (h : RS G H d v) (r : RSs G H ds vs) : RSs G H (d :: ds) (v :: vs)
def postO (G : GG) (W : WX) (os : List Opd) (ρ : Env) (σ : L2.St) (H : Hp) (Q : List V → Hp → Prop) : R (List (Option D) × Env) → Prop
  | .ok (xs, ρ') => ∀ vs H', RE G ρ' σ H' → Fr ρ σ H ρ' σ H' → (∀ ds, rds os xs ρ' = some ds → RSs G H' ds vs) → Q vs H'
  | .exc c w ρ' => wexc G W [] ρ σ H c w ρ'
  | .stuck => False
theorem opds_run {G : GG} {W : WX} {σ : L2.St} : ∀ {os : List Opd} {ρ : Env} {H : Hp} {Q : List V → Hp → Prop}, RE G ρ σ H → postO G W os ρ σ H Q (ev os ρ) → tOs G W os σ H Q
  | [], ρ, H, Q, r, h => h [] H r Fr.refl fun ds e => by cases e; exact .nil
  | .var i p :: os, ρ, H, Q, r, h => by
    unfold ev at h
    split at h
    case h_2 => exact h.elim
    rename_i d0 e0
    unfold chk at h
    split at h
    case isFalse => exact h.elim
    rename_i hp
    obtain ⟨v, e, rs0⟩ := r.val i d0 e0
    refine ⟨v, e, ⟨d0, hp, rs0⟩, opds_run (os := os) (ρ := ρ) r ?_⟩
    cases z : ev os ρ with
    | ok q =>
      rw [z] at h
      obtain ⟨xs, ρ'⟩ := q
      intro vs H' r' f q
      refine h (v :: vs) H' r' f fun ds e1 => ?_
      unfold rds at e1
      split at e1
      · rename_i d e2
        obtain ⟨v', e3, q3⟩ := r'.val i d e2
        rw [e] at e3
        cases e3
        cases y : rds os xs ρ' with
        | none => rw [y] at e1; cases e1
        | some ds' =>
          rw [y] at e1
          cases e1
          exact .cons q3 (q ds' y)
      · cases e1
    | exc c w ρ' =>
      rw [z] at h
      exact h
    | stuck =>
      rw [z] at h
      exact h
  | .tmp m p :: os, ρ, H, Q, r, h => by
    refine ⟨ρ, r, ?_⟩
    unfold ev at h
    cases z : m ρ with
    | ok q =>
      rw [z] at h
      obtain ⟨d, ρ1⟩ := q
      have h : postO G W (.tmp m p :: os) ρ σ H Q (chk (p d) ((ev os ρ1).bind fun r => .ok (some d :: r.1, r.2))) := h
      unfold chk at h
      split at h
      case isFalse => exact h.elim
      rename_i hp
      intro v H1 r1 f1 q1
      refine ⟨⟨d, hp, q1.1⟩, opds_run (os := os) (ρ := ρ1) r1 ?_⟩
      cases y : ev os ρ1 with
      | ok q =>
        rw [y] at h
        obtain ⟨xs, ρ2⟩ := q
        intro vs H2 r2 f2 q2
        refine h (v :: vs) H2 r2 (f1.trans f2) fun ds e1 => ?_
        have e1 : (rds os xs ρ2).map (d :: ·) = some ds := e1
        cases x : rds os xs ρ2 with
        | none =>
          rw [x] at e1
          cases e1
        | some ds' =>
          rw [x] at e1
          cases e1
          exact .cons (q1.later r1 f2).1 (q2 ds' x)
      | exc c w ρ' =>
        rw [y] at h
        exact wexc.later (A := []) (B := []) h f1 SameBut.refl
      | stuck =>
        rw [y] at h
        exact h
    | exc c w ρ' =>
      rw [z] at h
      exact h
    | stuck =>
      rw [z] at h
      exact h
end TV

/-! Tv3: expressions: names, constants, operators by values. -/
namespace TV
open PySem PySem.Spec PyProof.Rows L2

/-! ### data that are compared -/
mutual
def D.pd : D → Option PyData
  | .non => some .none
  | .bl b => some (.bool b)
  | .int i => some (.int i)
  | .str x => some (.str x)
  | .tup xs => (D.pds xs).map .tuple
  | .lst xs => (D.pds xs).map .list
  | .frl xs => (D.pds xs).map .list
  | .ins _ _ => none
  | .dic _ _ => none
def D.pds : List D → Option (List PyData)
  | [] => some []
  | d :: ds => match D.pd d, D.pds ds with
    | some p, some ps => some (p :: ps)
    | _, _ => none
end
mutual
theorem RV.dp {G : GG} {H : Hp} : ∀ {d : D} {v : V} {p : PyData}, RV G H d v → d.pd = some p → Dp G.K H v p
  | _, _, _, .non, e => by cases e; exact .non
  | _, _, _, .bl b, e => by cases e; exact .bl b
  | _, _, _, .int i, e => by cases e; exact .int i
  | _, _, _, .str x, e => by cases e; exact .str x
  | _, _, _, .tup (ds := ds) h r, e => by
    unfold D.pd at e
    cases z : D.pds ds with
    | none => rw [z] at e; cases e
    | some ps => rw [z] at e; cases e; exact .tup h.sqt (RVs.dp r z)
  | _, _, _, .ins h l r, e => by cases e
  | _, _, _, .frl (ds := ds) h r, e => by
    unfold D.pd at e
    cases z : D.pds ds with
    | none => rw [z] at e; cases e
    | some ps => rw [z] at e; cases e; exact .lst h.sql (RVs.dp r z)
theorem RVs.dp {G : GG} {H : Hp} : ∀ {ds : List D} {vs : List V} {ps : List PyData}, RVs G H ds vs → D.pds ds = some ps → DpAll G.K H vs ps
  | _, _, _, .nil, e => by cases e; exact .nil
  | _, _, _, .cons (d := d) (ds := ds) h r, e => by
    unfold D.pds at e
    split at e
    · rename_i p ps e1 e2
      cases e
      exact .cons (RV.dp h e1) (RVs.dp r e2)
    · cases e
end
theorem RS.dp {G : GG} {H : Hp} {d : D} {v : V} {p : PyData} (h : RS G H d v) (e : d.pd = some p) : Dp G.K H v p := by
  cases d with
  | lst ds =>
    obtain ⟨a, vs, rfl, q, r⟩ := h
    unfold D.pd at e
    cases z : D.pds ds with
    | none => rw [z] at e; cases e
    | some ps => rw [z] at e; cases e; exact .lst (SqL.of q) (r.dp z)
  | dic ks ds => cases e
  | _ => exact RV.dp (RS.rv h rfl) e

/-! ### an operation by values -/
def mOp (os : List Opd) (f : List D → Option D) : ME := fun ρ => (ev os ρ).bind fun p => match (rds os p.1 p.2).bind f with
  | some d => .ok (d, p.2)
  | none => .stuck
/-- what is given back: something shared, or something new -/
def Gives (G : GG) (H : Hp) (z : D) (Q : VK) : Prop := ∀ v H', Same H H' → RS G H' z v → (∀ a, v = .ref a → z.own = true → H a = none) → Q v H'
def VN (G : GG) (n : Nat) (r : List V → Hp → VK → Prop) (f : List D → Option D) : Prop := ∀ (H : Hp) (vs : List V) (ds : List D) (z : D) (Q : VK), ds.length = n → RSs G H ds vs → f ds = some z → Gives G H z Q → r vs H Q
theorem rds_len : ∀ {os : List Opd} {xs : List (Option D)} {ρ : Env} {ds : List D}, rds os xs ρ = some ds → ds.length = os.length
  | [], [], _, _, e => by cases e; rfl
  | [], _ :: _, _, _, e => by cases e
  | .var i _ :: os, [], _, _, e => by cases e
  | .tmp _ _ :: os, [], _, _, e => by cases e
  | .tmp _ _ :: os, none :: _, _, _, e => by cases e
  | .var i _ :: os, _ :: xs, ρ, ds, e => by
    unfold rds at e
    split at e
    · cases y : rds os xs ρ with
      | none => rw [y] at e; cases e
      | some ds' => rw [y] at e; cases e; exact congrArg Nat.succ (rds_len y)
    · cases e
  | .tmp _ _ :: os, some d :: xs, ρ, ds, e => by
    unfold rds at e
    cases y : rds os xs ρ with
    | none => rw [y] at e; cases e
    | some ds' => rw [y] at e; cases e; exact congrArg Nat.succ (rds_len y)
theorem mOp_rd {G : GG} {W : WX} {os : List Opd} {f : List D → Option D} {r : List V → Hp → VK → Prop} (h : VN G os.length r f) {σ : L2.St} {H : Hp} {Q : VK} (q : rdE G W (mOp os f) σ H Q) : tOs G W os σ H fun vs H1 => r vs H1 Q := by
  obtain ⟨ρ, re, q⟩ := q
  refine opds_run re ?_
  unfold mOp at q
  cases e : ev os ρ with
  | ok p =>
    rw [e] at q
    obtain ⟨xs, ρ'⟩ := p
    intro vs H' re' fr hq
    have q : postE G W ρ σ H Q (match (rds os xs ρ').bind f with | some d => .ok (d, ρ') | none => .stuck) := q
    cases e2 : rds os xs ρ' with
    | none => rw [e2] at q; exact q.elim
    | some ds =>
      rw [e2] at q
      have q : postE G W ρ σ H Q (match f ds with | some d => .ok (d, ρ') | none => .stuck) := q
      cases e3 : f ds with
      | none => rw [e3] at q; exact q.elim
      | some z =>
        rw [e3] at q
        refine h H' vs ds z Q (rds_len e2) (hq ds e2) e3 fun v H2 sm rs fresh => ?_
        exact q v H2 (re'.same sm) (fr.trans (Fr.same sm)) ((Res.new re' rs fresh).ahead fr)
  | exc c w ρ' => rw [e] at q; exact q
  | stuck => rw [e] at q; exact q
/-- the same for two values -/
def V2 (G : GG) (r : R2) (f : List D → Option D) : Prop := ∀ (H : Hp) (x y : V) (d e z : D) (Q : VK), RS G H d x → RS G H e y → f [d, e] = some z → Gives G H z Q → r x y H Q
theorem mOp2_rd {G : GG} {W : WX} {a b : Opd} {f : List D → Option D} {r : R2} (h : V2 G r f) {σ : L2.St} {H : Hp} {Q : VK} (q : rdE G W (mOp [a, b] f) σ H Q) : tOp r (tO G W a) (tO G W b) σ H Q := by
  have k := mOp_rd (r := fun vs H Q => match vs with
    | [x, y] => r x y H Q
    | _ => False) (fun H vs ds z Q ln rs e g => ?_) q
  · exact k
  · cases rs with
    | nil => cases ln
    | cons h1 rs =>
      cases rs with
      | nil => cases ln
      | cons h2 rs =>
        cases rs with
        | nil => exact h H _ _ _ _ z Q h1 h2 e g
        | cons h3 rs => cases ln
/-- .. and for one -/
def V1 (G : GG) (r : V → Hp → VK → Prop) (f : List D → Option D) : Prop := ∀ (H : Hp) (x : V) (d z : D) (Q : VK), RS G H d x → f [d] = some z → Gives G H z Q → r x H Q
theorem mOp1_rd {G : GG} {W : WX} {a : Opd} {f : List D → Option D} {r : V → Hp → VK → Prop} (h : V1 G r f) {σ : L2.St} {H : Hp} {Q : VK} (q : rdE G W (mOp [a] f) σ H Q) : tO G W a σ H fun x H1 => r x H1 Q := by
  have k := mOp_rd (r := fun vs H Q => match vs with
    | [x] => r x H Q
    | _ => False) (fun H vs ds z Q ln rs e g => ?_) q
  · exact k
  · cases rs with
    | nil => cases ln
    | cons h1 rs =>
      cases rs with
      | nil => exact h H _ _ z Q h1 e g
      | cons h2 rs => cases ln

/-! ### names, constants -/
def mC (d : D) : ME := fun ρ => .ok (d, ρ)
section
variable {X : Cx} {G : GG} {W : WX} {pos : Pos}
theorem rdC {d : D} {v : V} (h : ∀ H, RV G H d v) {σ : L2.St} {H : Hp} {Q : VK} (q : rdE G W (mC d) σ H Q) : Q v H := by
  obtain ⟨ρ, re, q⟩ := q
  exact q v H re Fr.refl (Res.of_rv (h H))
theorem se_int {i j} : SE X G W (.Constant (.int i) j pos) (mC (.int i)) := pe_wk pe_int fun σ H Q q => rdC (fun _ => .int i) q
theorem se_bl {b j} : SE X G W (.Constant (.bool b) j pos) (mC (.bl b)) := pe_wk pe_bl fun σ H Q q => rdC (fun _ => .bl b) q
theorem se_non {j} : SE X G W (.Constant .none j pos) (mC .non) := pe_wk pe_non fun σ H Q q => rdC (fun _ => .non) q
theorem se_str {x j} : SE X G W (.Constant (.str x) j pos) (mC (.str x)) := pe_wk pe_str fun σ H Q q => rdC (fun _ => .str x) q
/-- a constant of the module -/
theorem se_gi {x : Str} {i : Int} (hg : Gl X x) (hm : ∃ t, X.mg x = some (.int i t)) (hd : (x == ("__debug__" : Str)) = false := by decide) : SE X G W (.Name x pos) (mC (.int i)) := by
  obtain ⟨t, hm⟩ := hm
  exact pe_wk (pe_glob (v := .int i) hg hm ⟨t, rfl⟩ hd) fun σ H Q q => rdC (fun _ => .int i) q
theorem se_gs {x y : Str} (hg : Gl X x) (hm : ∃ t, X.mg x = some (.str y t)) (hd : (x == ("__debug__" : Str)) = false := by decide) : SE X G W (.Name x pos) (mC (.str y)) := by
  obtain ⟨t, hm⟩ := hm
  exact pe_wk (pe_glob (v := .str y) hg hm ⟨t, rfl⟩ hd) fun σ H Q q => rdC (fun _ => .str y) q
/-- a name that is taken: what it owns it owns no more -/
def mVar (i : Nat) : ME := fun ρ => match ρ[i]? with
  | some (some d) => .ok (d, if d.own then ρ.set i none else ρ)
  | _ => .stuck
end
/-- a name gives up what it has -/
theorem RE.drop {G : GG} {ρ : Env} {σ : L2.St} {H : Hp} (r : RE G ρ σ H) (i : Nat) : RE G (ρ.set i none) σ H := by
  have back : ∀ (j : Nat) (d : D), (ρ.set i none)[j]? = some (some d) → ρ[j]? = some (some d) := fun j d e => by
    rw [List.getElem?_set] at e
    split at e
    · split at e <;> cases e
    · exact e
  exact ⟨by rw [List.length_set]; exact r.len, fun j d e => r.val j d (back j d e), fun j k d e a h1 h2 => r.sep j k d e a (back j d h1) (back k e h2), r.pin, r.spin⟩
theorem own_drop {ρ : Env} {σ : L2.St} {i : Nat} {a : Addr} (h : own (ρ.set i none) σ a) : own ρ σ a := by
  obtain ⟨j, d, e1, e2, e3⟩ := h
  refine ⟨j, d, ?_, e2, e3⟩
  rw [List.getElem?_set] at e1
  split at e1
  · split at e1 <;> cases e1
  · exact e1
theorem own_dropped {G : GG} {ρ : Env} {σ : L2.St} {H : Hp} (r : RE G ρ σ H) {i : Nat} {d : D} {a : Addr} (e1 : ρ[i]? = some (some d)) (e2 : d.own = true) (e3 : σ[i]? = some (some (.ref a))) : ¬ own (ρ.set i none) σ a := by
  rintro ⟨j, e, h1, h2, h3⟩
  rw [List.getElem?_set] at h1
  split at h1
  · split at h1 <;> cases h1
  · rename_i ne
    exact ne (r.sep i j d e a e1 h1 e2 h2 e3 h3)
section
variable {X : Cx} {G : GG} {W : WX} {pos : Pos}
theorem rdVar {i : Nat} {σ : L2.St} {H : Hp} {Q : VK} (q : rdE G W (mVar i) σ H Q) : tVar i σ H Q := by
  obtain ⟨ρ, re, q⟩ := q
  unfold mVar at q
  split at q
  · rename_i d e
    obtain ⟨v, e1, s⟩ := re.val i d e
    refine ⟨v, e1, ?_⟩
    by_cases o : d.own = true
    · rw [if_pos o] at q
      refine q v H (re.drop i) (fun b u h n => ⟨h, fun z => n (own_drop z)⟩) ⟨s, fun a ea _ => ?_⟩
      subst ea
      exact ⟨own_dropped re e o e1, .inr ⟨i, d, e, o, e1⟩⟩
    · rw [if_neg o] at q
      exact q v H re Fr.refl ⟨s, fun a _ w => absurd w o⟩
  · exact q.elim
theorem se_var {i : Nat} {x : Str} (h : PE X (.Name x pos) (tVar i)) : SE X G W (.Name x pos) (mVar i) := pe_wk h fun σ H Q q => rdVar q
/-- a name as an operand; any other expression as an operand; where something is asked of the value -/
def pAny : D → Bool := fun _ => true
theorem so_varC {i : Nat} {x : Str} (p : D → Bool) (h : PE X (.Name x pos) (tVar i)) : SO X G W (.Name x pos) (.var i p) := pe_wk h fun _ _ _ q => let ⟨v, e, _, q⟩ := q; ⟨v, e, q⟩
end
section
variable {X : Cx} {G : GG} {W : WX} {pos : Pos}
theorem rdE.mono {t : ME} {σ : L2.St} {H : Hp} {Q Q' : VK} (q : rdE G W t σ H Q) (f : ∀ v H1, Q v H1 → Q' v H1) : rdE G W t σ H Q' := by
  obtain ⟨ρ, re, q⟩ := q
  refine ⟨ρ, re, ?_⟩
  cases e : t ρ with
  | ok p => rw [e] at q; exact fun v H' r1 r2 r3 => f _ _ (q v H' r1 r2 r3)
  | exc c w ρ' => rw [e] at q; exact q
  | stuck => rw [e] at q; exact q
theorem so_tmpC {e : Expr} {m : ME} (p : D → Bool) (h : SE X G W e m) : SO X G W e (.tmp m p) := pe_wk h fun _ _ _ q => rdE.mono q fun _ _ z => z.2
theorem so_var {i : Nat} {x : Str} (h : PE X (.Name x pos) (tVar i)) : SO X G W (.Name x pos) (.var i pAny) := so_varC pAny h
theorem so_tmp {e : Expr} {m : ME} (h : SE X G W e m) : SO X G W e (.tmp m pAny) := so_tmpC pAny h
abbrev SOs (X : Cx) (G : GG) (W : WX) (es : List Expr) (os : List Opd) : Prop := PA X es (tOs G W os)
theorem so_nil : SOs X G W [] [] := pa_nil
theorem so_cons {e : Expr} {es : List Expr} {o : Opd} {os : List Opd} (h : SO X G W e o) (r : SOs X G W es os) (hs : starEach (e :: es) X.env = (false, eval e X.env) :: starEach es X.env := by rfl) : SOs X G W (e :: es) (o :: os) := pa_cons h r hs
end
end TV

/-! Tv4: operators. -/
namespace TV
open PySem PySem.Spec PyProof.Rows L2

theorem same_upd {H : Hp} {p : Addr} {o : HO} (h : H p = none) : Same H (upd H p o) := fun b x e => by
  rw [upd_ne (ne_of_none e h)]
  exact e
theorem sfix {H H' : Hp} (k : Same H H') : Fix H H' := fun b o h _ => k b o h
theorem Gives.val {G : GG} {H : Hp} {z : D} {Q : VK} {v : V} (g : Gives G H z Q) (h : RV G H z v) : Q v H := g v H (Same.refl H) h.rs fun _ _ o => by
  rw [h.plain] at o
  cases o
/-- a new tuple of vs -/
def NewT (vs : List V) (H : Hp) (Q : VK) : Prop := ∀ (p : Addr) (o : Obj), o.cls = .type "tuple" → o.dict = none → H p = none → Q (.ref p) (upd H p (.frz o (.tup vs)))
theorem Gives.tup {G : GG} {H : Hp} {ds : List D} {vs : List V} {Q : VK} (g : Gives G H (.tup ds) Q) (r : RVs G H ds vs) : NewT vs H Q := fun p o h1 h2 h =>
  g _ _ (same_upd h) (.tup (.inl ⟨o, upd_same, h1, h2⟩) (r.mono (sfix (same_upd h)))) fun _ _ o => by cases o
theorem laidT {X : Cx} {pins : List (Addr × Obj)} {σ : L2.St} {H : Hp} {s : Shared} {vs : List V} {us : List Value} {Q : VK} (I : Inv X pins σ H s) (r : Vals vs us) (hz : vs.length ≤ sizeLine) (q : NewT vs H Q) :
    EP X pins σ Q (.ref s.heap.objs.size) { s with heap := s.heap.push { cls := .type "tuple", data := .seq us.toArray } } := by
  have I2 : Inv X pins σ (upd H s.heap.objs.size (.frz { cls := .type "tuple", data := .seq us.toArray } (.tup vs))) { s with heap := s.heap.push { cls := .type "tuple", data := .seq us.toArray } } :=
    I.laid (t' := s.toks) (fun b o e => Heap.get?_push_of_some _ e) (Nat.le_refl _) ⟨Heap.get?_push_size _ rfl, hz, us, r, ⟨_, Heap.get?_push_size _ rfl, rfl, _, rfl⟩⟩
  exact ⟨V.ref s.heap.objs.size, _, I2, rfl, q _ _ rfl rfl (I.hok.fresh (Nat.le_refl _))⟩
theorem Gives.lst {G : GG} {H : Hp} {ds : List D} {vs : List V} {Q : VK} (g : Gives G H (.lst ds) Q) (r : RVs G H ds vs) : ∀ p, H p = none → Q (.ref p) (upd H p (.lst vs)) := fun p h =>
  g _ _ (same_upd h) ⟨p, vs, rfl, upd_same, r.mono (sfix (same_upd h))⟩ fun a e _ => by
    cases e
    exact h
/-- a sequence is read -/
theorem RS.tupOf {G : GG} {H : Hp} {ds : List D} {v : V} (h : RS G H (.tup ds) v) : ∃ a vs, v = .ref a ∧ TupS G.K H a vs ∧ RVs G H ds vs := by
  cases h with
  | tup h r => exact ⟨_, _, rfl, h, r⟩
theorem RS.frlOf {G : GG} {H : Hp} {ds : List D} {v : V} (h : RS G H (.frl ds) v) : ∃ a vs, v = .ref a ∧ SqL G.K H a vs ∧ RVs G H ds vs := by
  cases h with
  | frl h r => exact ⟨_, _, rfl, h.sql, r⟩
theorem RS.lstOf {G : GG} {H : Hp} {ds : List D} {v : V} (h : RS G H (.lst ds) v) : ∃ a vs, v = .ref a ∧ H a = some (.lst vs) ∧ RVs G H ds vs := h
theorem RS.intOf {G : GG} {H : Hp} {i : Int} {v : V} (h : RS G H (.int i) v) : v = .int i := by cases h; rfl
theorem RS.blOf {G : GG} {H : Hp} {b : Bool} {v : V} (h : RS G H (.bl b) v) : v = .bl b := by cases h; rfl
theorem RS.strOf {G : GG} {H : Hp} {x : Str} {v : V} (h : RS G H (.str x) v) : v = .str x := by cases h; rfl
theorem RS.nonOf {G : GG} {H : Hp} {v : V} (h : RS G H .non v) : v = .non := by cases h; rfl

/-- t + u of tuples -/
def rCatF (K : PySem.W.Frag) : R2 := fun x y H Q => ∃ a b xs ys, x = .ref a ∧ y = .ref b ∧ SqT K H a xs ∧ SqT K H b ys ∧ xs.length + ys.length ≤ sizeLine ∧ (xs = [] → Q (.ref b) H) ∧ (ys = [] → Q (.ref a) H) ∧ NewT (xs ++ ys) H Q
theorem op_catF {X : Cx} : OpR X (binaryOp .Add) (rCatF X.K) := by
  rintro pins s σ H x y v u Q I rx ry ⟨a, b, xs, ys, rfl, rfl, ha, hb, hz, q0, q1, q2⟩
  obtain ⟨it, r1, p1, _⟩ := I.tuple ha
  obtain ⟨jt, r2, p2, _⟩ := I.tuple hb
  cases rx; cases ry
  by_cases hx : xs = []
  · subst hx
    cases r1
    exact cat_tup0 p1 p2 ⟨.ref b, H, I, rfl, q0 rfl⟩
  · refine HT.cat_tup p1 p2 (fun z => hx (r1.nil_iff.mp z)) (fun z => ⟨.ref a, H, I, rfl, q1 (r2.nil_iff.mp z)⟩) (fun _ => ?_) (by rw [← r1.length, ← r2.length]; exact hz)
    exact laidT I (r1.append r2) (by rw [List.length_append]; exact hz) q2
/-- t[lo:hi] of a tuple -/
def rSlF (K : PySem.W.Frag) : V → Option Int → Option Int → Hp → VK → Prop := fun x lo hi H Q => ∃ a xs, x = .ref a ∧ SqT K H a xs ∧
  (HT.sIx xs.length 0 lo = 0 ∧ HT.sIx xs.length xs.length hi = xs.length → Q (.ref a) H) ∧ NewT (cutV xs lo hi) H Q
theorem sl_tupF {X : Cx} : SlR X (rSlF X.K) := by
  rintro pins s σ H x v vl vu lo hi sl Q I rx hs pl pu ⟨a, xs, rfl, hx, q1, q2⟩
  obtain ⟨it, r, ht, hz⟩ := I.tuple hx
  have hlen : it.toArray.size = xs.length := by rw [List.size_toArray]; exact r.length.symm
  cases rx
  refine ⟨_, _, PyProof.Rows.slot_tuple_getitem.lookup, ht.typeIs, ?_⟩
  by_cases hw : HT.sIx xs.length 0 lo = 0 ∧ HT.sIx xs.length xs.length hi = xs.length
  · exact getItem_tuple_whole ht hs pl pu (by rw [hlen]; exact hw) ⟨.ref a, H, I, rfl, q1 hw⟩
  · refine HT.getItem_tuple_cut ht hs pl pu (by rw [hlen]; exact hw) ?_ (by rw [hlen]; exact hz)
    rw [hlen]
    exact laidT I ((r.drop _).take _) (Nat.le_trans (cutV_length xs lo hi) hz) q2
/-- tuple(x) of a list or a tuple -/
def rTupF (K : PySem.W.Frag) : List V → Hp → VK → Prop := fun xs H Q => ∃ p ys, xs = [.ref p] ∧ ((SqL K H p ys ∧ NewT ys H Q) ∨ (SqT K H p ys ∧ Q (.ref p) H))
theorem call_tupF {X : Cx} : CallR X (.type "tuple") (rTupF X.K) := by
  rintro pins s σ H xs us Q I r ⟨p, ys, rfl, h⟩
  obtain ⟨u, rfl, rx⟩ := vals1 r
  cases rx
  rcases h with ⟨hq, q⟩ | ⟨hq, q⟩
  · obtain ⟨it, rv, pl, hz⟩ := I.list hq
    refine call_tuple_list pl.isList (fun h' kp => ?_) (by rw [List.size_toArray, ← rv.length]; exact hz)
    exact laidT (s := { s with heap := h' }) (I.kept (t' := s.toks) kp) rv hz q
  · obtain ⟨it, rv, pl, _⟩ := I.tuple hq
    exact call_tuple_same pl ⟨.ref p, H, I, rfl, q⟩
/-- (a, b, ..) -/
def tTupF (t : TA) : TE := fun σ H Q => t σ H fun xs H1 => xs.length ≤ sizeLine ∧ NewT xs H1 Q
theorem pe_tupF {X : Cx} {es : List Expr} {t : TA} {x1} {pos : Pos} (h : PA X es t) : PE X (.Tuple es x1 pos) (tTupF t) := by
  refine ⟨fun pins s σ H Q I hq => ?_⟩
  refine wpAny_Tuple_spliced (thn (h.run pos pins s σ H _ I hq) fun us s1 ⟨xs, H1, I1, r, z, q⟩ => ⟨by rw [← r.length]; exact z, laidT I1 r z q⟩)

/-! ### + - * // % ** << -/
def dAdd : List D → Option D
  | [.int i, .int j] => some (.int (i + j))
  | [.int i, .bl k] => some (.int (i + b2i k))
  | [.str a, .str b] => if a.length + b.length ≤ sizeLine then some (.str (a ++ b)) else none
  | [.tup xs, .tup ys] => if xs.length + ys.length ≤ sizeLine then some (.tup (xs ++ ys)) else none
  | [.lst xs, .lst ys] => if xs.length + ys.length ≤ sizeLine then some (.lst (xs ++ ys)) else none
  | _ => none
abbrev rAddAll (K : PySem.W.Frag) : R2 := fun x y H Q => rI0 (fun i j => .int (i + j)) x y H Q ∨ (∃ i k, x = .int i ∧ y = .bl k ∧ Q (.int (i + b2i k)) H) ∨
  (∃ i j, x = .str i ∧ y = .str j ∧ i.length + j.length ≤ sizeLine ∧ Q (.str (i ++ j)) H) ∨ rCatF K x y H Q ∨ rCat x y H Q
theorem op_addAll {X : Cx} : OpR X (binaryOp .Add) (rAddAll X.K) := op_add.or (op_add_ib.or (op_add_str.or (op_catF.or op_cat)))
theorem v2_add {G : GG} : V2 G (rAddAll G.K) dAdd := by
  intro H x y d e z Q h1 h2 ef g
  unfold dAdd at ef
  split at ef
  · rename_i i j q
    cases q; cases ef
    rw [h1.intOf, h2.intOf]
    exact .inl ⟨i, j, rfl, rfl, g.val (.int _)⟩
  · rename_i i k q
    cases q; cases ef
    rw [h1.intOf, h2.blOf]
    exact .inr (.inl ⟨i, k, rfl, rfl, g.val (.int _)⟩)
  · rename_i a b q
    cases q
    split at ef
    · rename_i l
      cases ef
      rw [h1.strOf, h2.strOf]
      exact .inr (.inr (.inl ⟨a, b, rfl, rfl, l, g.val (.str _)⟩))
    · cases ef
  · rename_i xs ys q
    cases q
    split at ef
    · rename_i l
      cases ef
      obtain ⟨a, vs, rfl, s1, r1⟩ := h1.tupOf
      obtain ⟨b, ws, rfl, s2, r2⟩ := h2.tupOf
      refine .inr (.inr (.inr (.inl ⟨a, b, vs, ws, rfl, rfl, s1.sqt, s2.sqt, by rw [← r1.length, ← r2.length]; exact l, fun z => ?_, fun z => ?_, g.tup (r1.app r2)⟩)))
      · subst z
        cases r1
        exact g.val (.tup s2 r2)
      · subst z
        cases r2
        rw [List.append_nil] at g
        exact g.val (.tup s1 r1)
    · cases ef
  · rename_i xs ys q
    cases q
    split at ef
    · rename_i l
      cases ef
      obtain ⟨a, vs, rfl, s1, r1⟩ := h1.lstOf
      obtain ⟨b, ws, rfl, s2, r2⟩ := h2.lstOf
      exact .inr (.inr (.inr (.inr ⟨a, b, vs, ws, rfl, rfl, s1, s2, by rw [← r1.length, ← r2.length]; exact l, g.lst (r1.app r2)⟩)))
    · cases ef
  · cases ef
def dSub : List D → Option D
  | [.int i, .int j] => some (.int (i - j))
  | _ => none
theorem v2_sub {G : GG} : V2 G (rI0 fun i j => .int (i - j)) dSub := by
  intro H x y d e z Q h1 h2 ef g
  unfold dSub at ef
  split at ef
  · rename_i i j q
    cases q; cases ef
    rw [h1.intOf, h2.intOf]
    exact ⟨i, j, rfl, rfl, g.val (.int _)⟩
  · cases ef
instance {i j : Int} : Decidable (CMulW i j) := inferInstanceAs (Decidable (_ < _))
instance {i j : Int} : Decidable (CDivW i j) := inferInstanceAs (Decidable (_ ∧ _))
instance {i j : Int} : Decidable (CPow i j) := inferInstanceAs (Decidable (_ ∧ _))
def dMul : List D → Option D
  | [.int i, .int j] => if CMulW i j then some (.int (i * j)) else none
  | _ => none
theorem v2_mul {G : GG} : V2 G (rI CMulW fun i j => .int (i * j)) dMul := by
  intro H x y d e z Q h1 h2 ef g
  unfold dMul at ef
  split at ef
  · rename_i i j q
    cases q
    split at ef
    · rename_i c
      cases ef
      rw [h1.intOf, h2.intOf]
      exact ⟨i, j, rfl, rfl, c, g.val (.int _)⟩
    · cases ef
  · cases ef
/-- the product where one factor is small, the other one of any size -/
def dMulS : List D → Option D
  | [.int i, .int j] => if -(2 ^ 64) < j ∧ j < 2 ^ 64 then some (.int (i * j)) else none
  | _ => none
theorem v2_mulS {G : GG} : V2 G (rI CMul fun i j => .int (i * j)) dMulS := by
  intro H x y d e z Q h1 h2 ef g
  unfold dMulS at ef
  split at ef
  · rename_i i j q
    cases q
    split at ef
    · rename_i c
      cases ef
      rw [h1.intOf, h2.intOf]
      exact ⟨i, j, rfl, rfl, .inr c, g.val (.int _)⟩
    · cases ef
  · cases ef
def dDiv : List D → Option D
  | [.int i, .int j] => if CDivW i j then some (.int (i / j)) else none
  | _ => none
theorem v2_div {G : GG} : V2 G (rI CDivW fun i j => .int (i / j)) dDiv := by
  intro H x y d e z Q h1 h2 ef g
  unfold dDiv at ef
  split at ef
  · rename_i i j q
    cases q
    split at ef
    · rename_i c
      cases ef
      rw [h1.intOf, h2.intOf]
      exact ⟨i, j, rfl, rfl, c, g.val (.int _)⟩
    · cases ef
  · cases ef
def dMod : List D → Option D
  | [.int i, .int j] => if 0 < j then some (.int (i % j)) else none
  | _ => none
theorem v2_mod {G : GG} : V2 G (rI (fun _ j => 0 < j) fun i j => .int (i % j)) dMod := by
  intro H x y d e z Q h1 h2 ef g
  unfold dMod at ef
  split at ef
  · rename_i i j q
    cases q
    split at ef
    · rename_i c
      cases ef
      rw [h1.intOf, h2.intOf]
      exact ⟨i, j, rfl, rfl, c, g.val (.int _)⟩
    · cases ef
  · cases ef
def dPow : List D → Option D
  | [.int i, .int j] => if CPow i j then some (.int (i ^ j.toNat)) else none
  | _ => none
theorem v2_pow {G : GG} : V2 G (rI CPow fun i j => .int (i ^ j.toNat)) dPow := by
  intro H x y d e z Q h1 h2 ef g
  unfold dPow at ef
  split at ef
  · rename_i i j q
    cases q
    split at ef
    · rename_i c
      cases ef
      rw [h1.intOf, h2.intOf]
      exact ⟨i, j, rfl, rfl, c, g.val (.int _)⟩
    · cases ef
  · cases ef
def dShl : List D → Option D
  | [.int i, .int j] => if CPow i j then some (.int (i * 2 ^ j.toNat)) else none
  | _ => none
theorem v2_shl {G : GG} : V2 G (rI CPow fun i j => .int (i * 2 ^ j.toNat)) dShl := by
  intro H x y d e z Q h1 h2 ef g
  unfold dShl at ef
  split at ef
  · rename_i i j q
    cases q
    split at ef
    · rename_i c
      cases ef
      rw [h1.intOf, h2.intOf]
      exact ⟨i, j, rfl, rfl, c, g.val (.int _)⟩
    · cases ef
  · cases ef
def dNeg : List D → Option D
  | [.int i] => some (.int (-i))
  | _ => none
theorem v1_neg {G : GG} : V1 G (rU fun i => .int (-i)) dNeg := by
  intro H x d z Q h1 ef g
  unfold dNeg at ef
  split at ef
  · rename_i i q
    cases q; cases ef
    rw [h1.intOf]
    exact ⟨i, rfl, g.val (.int _)⟩
  · cases ef
section
variable {X : Cx} {G : GG} {W : WX} {pos : Pos} {a b : Expr} {oa ob : Opd}
theorem se_bin {op : Operator} {r : R2} {f : List D → Option D} (ho : OpR X (binaryOp op) r) (hv : V2 G r f) (ha : SO X G W a oa) (hb : SO X G W b ob) : SE X G W (.BinOp a op b pos) (mOp [oa, ob] f) :=
  pe_wk (pe_op ho ha hb) fun σ H Q q => mOp2_rd hv q
theorem se_add (c : CT X G W) (ha : SO X G W a oa) (hb : SO X G W b ob) : SE X G W (.BinOp a .Add b pos) (mOp [oa, ob] dAdd) := se_bin (r := rAddAll G.K) (by rw [c.k]; exact op_addAll) v2_add ha hb
theorem se_sub (ha : SO X G W a oa) (hb : SO X G W b ob) : SE X G W (.BinOp a .Sub b pos) (mOp [oa, ob] dSub) := se_bin op_sub v2_sub ha hb
theorem se_mul (ha : SO X G W a oa) (hb : SO X G W b ob) : SE X G W (.BinOp a .Mult b pos) (mOp [oa, ob] dMul) := se_bin op_mulW v2_mul ha hb
theorem se_mulS (ha : SO X G W a oa) (hb : SO X G W b ob) : SE X G W (.BinOp a .Mult b pos) (mOp [oa, ob] dMulS) := se_bin op_mul v2_mulS ha hb
theorem se_div (ha : SO X G W a oa) (hb : SO X G W b ob) : SE X G W (.BinOp a .FloorDiv b pos) (mOp [oa, ob] dDiv) := se_bin op_fdivW v2_div ha hb
theorem se_mod (ha : SO X G W a oa) (hb : SO X G W b ob) : SE X G W (.BinOp a .Mod b pos) (mOp [oa, ob] dMod) := se_bin op_mod v2_mod ha hb
theorem se_pow (ha : SO X G W a oa) (hb : SO X G W b ob) : SE X G W (.BinOp a .Pow b pos) (mOp [oa, ob] dPow) := se_bin op_pow v2_pow ha hb
theorem se_shl (ha : SO X G W a oa) (hb : SO X G W b ob) : SE X G W (.BinOp a .LShift b pos) (mOp [oa, ob] dShl) := se_bin op_shl v2_shl ha hb
theorem se_neg (ha : SO X G W a oa) : SE X G W (.UnaryOp .USub a pos) (mOp [oa] dNeg) := pe_wk (pe_un un_neg ha) fun σ H Q q => mOp1_rd v1_neg q
end

/-! ### comparisons -/
def dLt : List D → Option D
  | [.int i, .int j] => some (.bl (decide (i < j)))
  | [.str a, .str b] => some (.bl (decide (a.cps.toList < b.cps.toList)))
  | _ => none
theorem v2_lt {G : GG} : V2 G (fun x y H Q => rI0 (fun i j => .bl (decide (i < j))) x y H Q ∨ ∃ i j, x = .str i ∧ y = .str j ∧ Q (.bl (decide (i.cps.toList < j.cps.toList))) H) dLt := by
  intro H x y d e z Q h1 h2 ef g
  unfold dLt at ef
  split at ef
  · rename_i i j q
    cases q; cases ef
    rw [h1.intOf, h2.intOf]
    exact .inl ⟨i, j, rfl, rfl, g.val (.bl _)⟩
  · rename_i i j q
    cases q; cases ef
    rw [h1.strOf, h2.strOf]
    exact .inr ⟨i, j, rfl, rfl, g.val (.bl _)⟩
  · cases ef
def dIntB (p : Int → Int → Bool) : List D → Option D
  | [.int i, .int j] => some (.bl (p i j))
  | _ => none
theorem v2_intB {G : GG} {p : Int → Int → Bool} : V2 G (rI0 fun i j => .bl (p i j)) (dIntB p) := by
  intro H x y d e z Q h1 h2 ef g
  unfold dIntB at ef
  split at ef
  · rename_i i j q
    cases q; cases ef
    rw [h1.intOf, h2.intOf]
    exact ⟨i, j, rfl, rfl, g.val (.bl _)⟩
  · cases ef
def dLe : List D → Option D := dIntB fun i j => decide (i ≤ j)
def dGt : List D → Option D := dIntB fun i j => decide (j < i)
def dGe : List D → Option D := dIntB fun i j => decide (j ≤ i)
/-- alike as data -/
def dEqB (a b : D) : Option Bool := match a.pd, b.pd with
  | some p, some q => if SeqAt.shaped p = true ∧ SeqAt.shaped q = true then some (PyData.eqv p q) else none
  | _, _ => none
def dEq : List D → Option D
  | [a, b] => (dEqB a b).map .bl
  | _ => none
def dNe : List D → Option D
  | [a, b] => (dEqB a b).map fun k => .bl (!k)
  | _ => none
theorem eqB_of {a b : D} {k : Bool} (h : dEqB a b = some k) : ∃ p q, a.pd = some p ∧ b.pd = some q ∧ SeqAt.shaped p = true ∧ SeqAt.shaped q = true ∧ k = PyData.eqv p q := by
  unfold dEqB at h
  split at h
  · rename_i p q e1 e2
    split at h
    · rename_i c
      exact ⟨p, q, e1, e2, c.1, c.2, (Option.some.inj h).symm⟩
    · cases h
  · cases h
theorem v2_eq {G : GG} : V2 G (rEqD G.K) dEq := by
  intro H x y d e z Q h1 h2 ef g
  have ef : (dEqB d e).map D.bl = some z := ef
  rw [Option.map_eq_some_iff] at ef
  obtain ⟨k, c, rfl⟩ := ef
  obtain ⟨p, q, e1, e2, s1, s2, rfl⟩ := eqB_of c
  exact ⟨p, q, h1.dp e1, h2.dp e2, s1, s2, g.val (.bl _)⟩
theorem v2_ne {G : GG} : V2 G (rNeD G.K) dNe := by
  intro H x y d e z Q h1 h2 ef g
  have ef : (dEqB d e).map (fun k => D.bl (!k)) = some z := ef
  rw [Option.map_eq_some_iff] at ef
  obtain ⟨k, c, rfl⟩ := ef
  obtain ⟨p, q, e1, e2, s1, s2, rfl⟩ := eqB_of c
  exact ⟨p, q, h1.dp e1, h2.dp e2, s1, s2, g.val (.bl _)⟩
/-- is None, is not None -/
def D.isNon : D → Bool
  | .non => true
  | _ => false
theorem RS.isNon {G : GG} {H : Hp} {d : D} {v : V} (h : RS G H d v) : decide (v = .non) = d.isNon := by
  cases d with
  | lst ds => obtain ⟨a, vs, rfl, _⟩ := h; rfl
  | dic ks ds => obtain ⟨a, vs, rfl, _⟩ := h; rfl
  | _ => cases (RS.rv h rfl) <;> rfl
def dIsN : List D → Option D
  | [a, .non] => some (.bl a.isNon)
  | _ => none
def dNotN : List D → Option D
  | [a, .non] => some (.bl (!a.isNon))
  | _ => none
theorem v2_isN {G : GG} : V2 G (fun x y H Q => y = .non ∧ Q (.bl (decide (x = .non))) H) dIsN := by
  intro H x y d e z Q h1 h2 ef g
  unfold dIsN at ef
  split at ef
  · rename_i a q
    cases q; cases ef
    rw [h1.isNon]
    exact ⟨h2.nonOf, g.val (.bl _)⟩
  · cases ef
theorem v2_notN {G : GG} : V2 G (fun x y H Q => y = .non ∧ Q (.bl (!decide (x = .non))) H) dNotN := by
  intro H x y d e z Q h1 h2 ef g
  unfold dNotN at ef
  split at ef
  · rename_i a q
    cases q; cases ef
    rw [h1.isNon]
    exact ⟨h2.nonOf, g.val (.bl _)⟩
  · cases ef
end TV

/-! Tv5: comparisons and tests as written; in; boolean operators; displays. -/
namespace TV
open PySem PySem.Spec PyProof.Rows L2

/-! ### in, of flat values -/
def D.fl : D → Option V
  | .non => some .non
  | .bl b => some (.bl b)
  | .int i => some (.int i)
  | .str x => some (.str x)
  | _ => none
def fls : List D → Option (List V)
  | [] => some []
  | d :: ds => match d.fl, fls ds with
    | some v, some vs => some (v :: vs)
    | _, _ => none
theorem RV.fl {G : GG} {H : Hp} {d : D} {v w : V} (h : RV G H d v) (e : d.fl = some w) : v = w ∧ flatV w = true := by
  cases h <;> first | (cases e; exact ⟨rfl, rfl⟩) | cases e
theorem RVs.fls {G : GG} {H : Hp} : ∀ {ds : List D} {vs ws : List V}, RVs G H ds vs → TV.fls ds = some ws → vs = ws ∧ ws.all flatV = true
  | _, _, _, .nil, e => by cases e; exact ⟨rfl, rfl⟩
  | _, _, _, .cons h r, e => by
    unfold TV.fls at e
    split at e
    · rename_i v vs e1 e2
      cases e
      obtain ⟨h1, h2⟩ := h.fl e1
      obtain ⟨r1, r2⟩ := r.fls e2
      rw [h1, r1]
      exact ⟨rfl, by rw [List.all_cons, h2, r2]; rfl⟩
    · cases e
def dItems : D → Option (List D)
  | .tup xs => some xs
  | .lst xs => some xs
  | .frl xs => some xs
  | _ => none
theorem RS.items {G : GG} {H : Hp} {d : D} {v : V} {ds : List D} (h : RS G H d v) (e : dItems d = some ds) : ∃ p vs, v = .ref p ∧ (SqL G.K H p vs ∨ SqT G.K H p vs) ∧ RVs G H ds vs := by
  unfold dItems at e
  split at e
  · cases e
    obtain ⟨a, vs, rfl, s, r⟩ := h.tupOf
    exact ⟨a, vs, rfl, .inr s.sqt, r⟩
  · cases e
    obtain ⟨a, vs, rfl, s, r⟩ := h.lstOf
    exact ⟨a, vs, rfl, .inl (SqL.of s), r⟩
  · cases e
    obtain ⟨a, vs, rfl, s, r⟩ := h.frlOf
    exact ⟨a, vs, rfl, .inl s, r⟩
  · cases e
/-- in (neg: not in) a sequence of flat values -/
def dInF (neg : Bool) : List D → Option D
  | [x, s] => match x.fl, (dItems s).bind fls with
    | some v, some vs => some (.bl (if neg then !inV v vs else inV v vs))
    | _, _ => none
  | _ => none
theorem v2_in {G : GG} {neg : Bool} : V2 G (rIn G.K neg) (dInF neg) := by
  intro H x y d e z Q h1 h2 ef g
  have ef : (match d.fl, (dItems e).bind fls with
    | some v, some vs => some (D.bl (if neg then !inV v vs else inV v vs))
    | _, _ => none) = some z := ef
  split at ef
  · rename_i v vs e1 e2
    cases ef
    cases e3 : dItems e with
    | none => rw [e3] at e2; cases e2
    | some ds =>
      rw [e3] at e2
      obtain ⟨p, ws, rfl, s, r⟩ := h2.items e3
      obtain ⟨q1, q2⟩ := r.fls e2
      have po : d.own = false := by cases d <;> first | rfl | cases e1
      obtain ⟨q3, q4⟩ := (h1.rv po).fl e1
      subst q1 q3
      exact ⟨p, ws, rfl, s, q4, q2, g.val (.bl _)⟩
  · cases ef

section
variable {X : Cx} {G : GG} {W : WX} {pos : Pos} {a b c' : Expr} {oa ob oc : Opd}
/-! ### one comparison, as a value and as a test -/
theorem se_cmp {op : CmpOp} {r : R2} {f : List D → Option D} (ho : OpR X (compareOp op) r) (hv : V2 G r f) (ha : SO X G W a oa) (hb : SO X G W b ob) (hm : behindInMarks op b = false) : SE X G W (.Compare a [op] [b] pos) (mOp [oa, ob] f) :=
  pe_wk (pe_cmpR ho ha hb hm) fun σ H Q q => mOp2_rd hv q
/-- a value that is a bool, as a test -/
def toB : D × Env → R (Bool × Env)
  | (.bl k, ρ) => .ok (k, ρ)
  | _ => .stuck
def mB (m : ME) : MT := fun ρ => (m ρ).bind toB
theorem rdB {m : ME} {σ : L2.St} {H : Hp} {Q : Bool → Hp → Prop} (q : rdT G W (mB m) σ H Q) : rdE G W m σ H fun x H1 => ∃ k, x = .bl k ∧ Q k H1 := by
  obtain ⟨ρ, re, q⟩ := q
  refine ⟨ρ, re, ?_⟩
  have q : postT G W ρ σ H Q ((m ρ).bind toB) := q
  cases e : m ρ with
  | ok p =>
    rw [e] at q
    obtain ⟨d, ρ'⟩ := p
    intro v H' re' fr rs
    cases d with
    | bl k => exact ⟨_, rs.1.blOf, q H' re' fr⟩
    | _ => exact q.elim
  | exc c w ρ' => rw [e] at q; exact q
  | stuck => rw [e] at q; exact q
theorem st_cmp {op : CmpOp} {r : R2} {f : List D → Option D} (ho : OpR X (compareOp op) r) (hv : V2 G r f) (ha : SO X G W a oa) (hb : SO X G W b ob) (hm : behindInMarks op b = false) : ST X G W (.Compare a [op] [b] pos) (mB (mOp [oa, ob] f)) :=
  pt_wk (pt_cmpR ho ha hb hm) fun σ H Q q => mOp2_rd hv (rdB q)
theorem st_val {e : Expr} {m : ME} (h : SE X G W e m) (he : ∀ whole, isTrue e X.env whole = (do let v ← whole; standAt e.pos; holding [v] (truthy v)) := by intro _; rfl) : ST X G W e (mB m) :=
  pt_wk (pt_val h he) fun σ H Q q => rdB q
theorem op_ltAll : OpR X (compareOp .Lt) (fun x y H Q => rI0 (fun i j => .bl (decide (i < j))) x y H Q ∨ ∃ i j, x = .str i ∧ y = .str j ∧ Q (.bl (decide (i.cps.toList < j.cps.toList))) H) := op_lt.or op_lt_str
theorem st_lt (ha : SO X G W a oa) (hb : SO X G W b ob) : ST X G W (.Compare a [.Lt] [b] pos) (mB (mOp [oa, ob] dLt)) := st_cmp op_ltAll v2_lt ha hb (nomark _)
theorem st_le (ha : SO X G W a oa) (hb : SO X G W b ob) : ST X G W (.Compare a [.LtE] [b] pos) (mB (mOp [oa, ob] dLe)) := st_cmp op_le v2_intB ha hb (nomark _)
theorem st_gt (ha : SO X G W a oa) (hb : SO X G W b ob) : ST X G W (.Compare a [.Gt] [b] pos) (mB (mOp [oa, ob] dGt)) := st_cmp op_gt v2_intB ha hb (nomark _)
theorem st_ge (ha : SO X G W a oa) (hb : SO X G W b ob) : ST X G W (.Compare a [.GtE] [b] pos) (mB (mOp [oa, ob] dGe)) := st_cmp op_ge v2_intB ha hb (nomark _)
theorem st_eq (c : CT X G W) (ha : SO X G W a oa) (hb : SO X G W b ob) : ST X G W (.Compare a [.Eq] [b] pos) (mB (mOp [oa, ob] dEq)) := st_cmp (by rw [c.k]; exact op_eqD c.un) v2_eq ha hb (nomark _)
theorem st_ne (c : CT X G W) (ha : SO X G W a oa) (hb : SO X G W b ob) : ST X G W (.Compare a [.NotEq] [b] pos) (mB (mOp [oa, ob] dNe)) := st_cmp (by rw [c.k]; exact op_neD c.un) v2_ne ha hb (nomark _)
theorem st_isN (ha : SO X G W a oa) (hb : SO X G W b ob) : ST X G W (.Compare a [.Is] [b] pos) (mB (mOp [oa, ob] dIsN)) := st_cmp op_isN v2_isN ha hb (nomark _)
theorem st_notN (ha : SO X G W a oa) (hb : SO X G W b ob) : ST X G W (.Compare a [.IsNot] [b] pos) (mB (mOp [oa, ob] dNotN)) := st_cmp op_notN v2_notN ha hb (nomark _)
theorem st_in (c : CT X G W) (ha : SO X G W a oa) (hb : SO X G W b ob) (hm : behindInMarks .In b = false := by rfl) : ST X G W (.Compare a [.In] [b] pos) (mB (mOp [oa, ob] (dInF false))) := st_cmp (by rw [c.k]; exact op_in_seq) v2_in ha hb hm
theorem st_notIn (c : CT X G W) (ha : SO X G W a oa) (hb : SO X G W b ob) (hm : behindInMarks .NotIn b = false := by rfl) : ST X G W (.Compare a [.NotIn] [b] pos) (mB (mOp [oa, ob] (dInF true))) := st_cmp (by rw [c.k]; exact op_notIn_seq) v2_in ha hb hm
theorem se_lt (ha : SO X G W a oa) (hb : SO X G W b ob) : SE X G W (.Compare a [.Lt] [b] pos) (mOp [oa, ob] dLt) := se_cmp op_ltAll v2_lt ha hb (nomark _)
theorem se_le (ha : SO X G W a oa) (hb : SO X G W b ob) : SE X G W (.Compare a [.LtE] [b] pos) (mOp [oa, ob] dLe) := se_cmp op_le v2_intB ha hb (nomark _)
theorem se_gt (ha : SO X G W a oa) (hb : SO X G W b ob) : SE X G W (.Compare a [.Gt] [b] pos) (mOp [oa, ob] dGt) := se_cmp op_gt v2_intB ha hb (nomark _)
theorem se_ge (ha : SO X G W a oa) (hb : SO X G W b ob) : SE X G W (.Compare a [.GtE] [b] pos) (mOp [oa, ob] dGe) := se_cmp op_ge v2_intB ha hb (nomark _)
theorem se_eq (c : CT X G W) (ha : SO X G W a oa) (hb : SO X G W b ob) : SE X G W (.Compare a [.Eq] [b] pos) (mOp [oa, ob] dEq) := se_cmp (by rw [c.k]; exact op_eqD c.un) v2_eq ha hb (nomark _)
theorem se_ne (c : CT X G W) (ha : SO X G W a oa) (hb : SO X G W b ob) : SE X G W (.Compare a [.NotEq] [b] pos) (mOp [oa, ob] dNe) := se_cmp (by rw [c.k]; exact op_neD c.un) v2_ne ha hb (nomark _)
theorem se_isN (ha : SO X G W a oa) (hb : SO X G W b ob) : SE X G W (.Compare a [.Is] [b] pos) (mOp [oa, ob] dIsN) := se_cmp op_isN v2_isN ha hb (nomark _)
theorem se_notN (ha : SO X G W a oa) (hb : SO X G W b ob) : SE X G W (.Compare a [.IsNot] [b] pos) (mOp [oa, ob] dNotN) := se_cmp op_notN v2_notN ha hb (nomark _)
theorem se_in (c : CT X G W) (ha : SO X G W a oa) (hb : SO X G W b ob) (hm : behindInMarks .In b = false := by rfl) : SE X G W (.Compare a [.In] [b] pos) (mOp [oa, ob] (dInF false)) := se_cmp (by rw [c.k]; exact op_in_seq) v2_in ha hb hm
theorem se_notIn (c : CT X G W) (ha : SO X G W a oa) (hb : SO X G W b ob) (hm : behindInMarks .NotIn b = false := by rfl) : SE X G W (.Compare a [.NotIn] [b] pos) (mOp [oa, ob] (dInF true)) := se_cmp (by rw [c.k]; exact op_notIn_seq) v2_in ha hb hm

/-! ### and, or, not, if -/
theorem rdT.mono {t : MT} {σ : L2.St} {H : Hp} {Q Q' : Bool → Hp → Prop} (q : rdT G W t σ H Q) (f : ∀ b H1, Q b H1 → Q' b H1) : rdT G W t σ H Q' := by
  obtain ⟨ρ, re, q⟩ := q
  refine ⟨ρ, re, ?_⟩
  cases e : t ρ with
  | ok p => rw [e] at q; exact fun H' r1 r2 => f _ _ (q H' r1 r2)
  | exc c w ρ' => rw [e] at q; exact q
  | stuck => rw [e] at q; exact q
/-- a test, then what follows it -/
def tThen {α : Type} (t : MT) (k : Bool → Env → R α) : Env → R α := fun ρ => (t ρ).bind fun p => k p.1 p.2
theorem rdTT {t : MT} {k : Bool → MT} {σ : L2.St} {H : Hp} {Q : Bool → Hp → Prop} (q : rdT G W (tThen t k) σ H Q) : rdT G W t σ H fun b H1 => rdT G W (k b) σ H1 Q := by
  obtain ⟨ρ, re, q⟩ := q
  refine ⟨ρ, re, ?_⟩
  have q : postT G W ρ σ H Q ((t ρ).bind fun p => k p.1 p.2) := q
  cases e : t ρ with
  | ok p =>
    obtain ⟨b, ρ1⟩ := p
    rw [e] at q
    exact fun H1 re1 fr => ⟨ρ1, re1, postT.ahead (r := k b ρ1) q fr⟩
  | exc c w ρ' => rw [e] at q; exact q
  | stuck => rw [e] at q; exact q
theorem rdTE {t : MT} {k : Bool → ME} {σ : L2.St} {H : Hp} {Q : VK} (q : rdE G W (tThen t k) σ H Q) : rdT G W t σ H fun b H1 => rdE G W (k b) σ H1 Q := by
  obtain ⟨ρ, re, q⟩ := q
  refine ⟨ρ, re, ?_⟩
  have q : postE G W ρ σ H Q ((t ρ).bind fun p => k p.1 p.2) := q
  cases e : t ρ with
  | ok p =>
    obtain ⟨b, ρ1⟩ := p
    rw [e] at q
    exact fun H1 re1 fr => ⟨ρ1, re1, postE.ahead (r := k b ρ1) q fr⟩
  | exc c w ρ' => rw [e] at q; exact q
  | stuck => rw [e] at q; exact q
theorem rdTS {t : MT} {k : Bool → MS} {A : List Nat} {σ : L2.St} {H : Hp} {E : Ends} (q : rdS G W A (tThen t k) E σ H) : rdT G W t σ H fun b H1 => rdS G W A (k b) E σ H1 := by
  obtain ⟨ρ, re, q⟩ := q
  refine ⟨ρ, re, ?_⟩
  have q : postS G W A ρ σ H E ((t ρ).bind fun p => k p.1 p.2) := q
  cases e : t ρ with
  | ok p =>
    obtain ⟨b, ρ1⟩ := p
    rw [e] at q
    exact fun H1 re1 fr => ⟨ρ1, re1, postS.ahead (A := []) (B := A) (r := k b ρ1) q fr SameBut.refl⟩
  | exc c w ρ' => rw [e] at q; exact fun σ' H' dd fs v r1 r2 r3 => q σ' H' dd fs v r1 r2 (fun i _ => r3 i (fun h => nomatch h))
  | stuck => rw [e] at q; exact q
theorem rdT_ok {b : Bool} {σ : L2.St} {H : Hp} {Q : Bool → Hp → Prop} (q : rdT G W (fun ρ => .ok (b, ρ)) σ H Q) : Q b H := by
  obtain ⟨ρ, re, q⟩ := q
  exact q H re Fr.refl
def mYes : MT := fun ρ => .ok (true, ρ)
def mNo : MT := fun ρ => .ok (false, ρ)
def kAnd (u : MT) : Bool → MT
  | true => u
  | false => mNo
def kOr (u : MT) : Bool → MT
  | true => mYes
  | false => u
def kNot : Bool → MT
  | true => mNo
  | false => mYes
abbrev mAnd (t u : MT) : MT := tThen t (kAnd u)
abbrev mOr (t u : MT) : MT := tThen t (kOr u)
abbrev mNot (t : MT) : MT := tThen t kNot
abbrev SW (X : Cx) (G : GG) (W : WX) (e : Expr) (m : MT) : Prop := PW X e (rdT G W m)
theorem pw_wk {e : Expr} {t t' : TT} (h : PW X e t) (f : ∀ σ H Q, t' σ H Q → t σ H Q) : PW X e t' := ⟨fun w pins s σ H Q I q => h.run w pins s σ H Q I (f σ H Q q)⟩
theorem sw_and1 {t : MT} (h : ST X G W a t) : SW X G W (.BoolOp .And [a] pos) t := pw_and1 h
theorem sw_or1 {t : MT} (h : ST X G W a t) : SW X G W (.BoolOp .Or [a] pos) t := pw_or1 h
theorem sw_and {t u : MT} {rest : List Expr} (h : ST X G W a t) (k : SW X G W (.BoolOp .And (b :: rest) pos) u) : SW X G W (.BoolOp .And (a :: b :: rest) pos) (mAnd t u) :=
  pw_wk (pw_and h k) fun σ H Q q => (rdTT q).mono fun b H1 z => by
    cases b with
    | true => exact z
    | false => exact rdT_ok z
theorem sw_or {t u : MT} {rest : List Expr} (h : ST X G W a t) (k : SW X G W (.BoolOp .Or (b :: rest) pos) u) : SW X G W (.BoolOp .Or (a :: b :: rest) pos) (mOr t u) :=
  pw_wk (pw_or h k) fun σ H Q q => (rdTT q).mono fun b H1 z => by
    cases b with
    | true => exact rdT_ok z
    | false => exact z
theorem st_bool {e : Expr} {t : MT} (h : SW X G W e t) : ST X G W e t := PW.pt h
theorem st_not {t : MT} (h : ST X G W a t) : ST X G W (.UnaryOp .Not a pos) (mNot t) :=
  pt_wk (pt_not h) fun σ H Q q => (rdTT q).mono fun b H1 z => by
    cases b with
    | true => exact rdT_ok z
    | false => exact rdT_ok z
/-- the truth of a test as a value -/
def kV (b : Bool) : ME := mC (.bl b)
abbrev mV (t : MT) : ME := tThen t TV.kV
def kIf (a b : ME) : Bool → ME
  | true => a
  | false => b
abbrev mIf (t : MT) (a b : ME) : ME := tThen t (kIf a b)
theorem se_ifExp {t : MT} {m n : ME} (h : ST X G W c' t) (ha : SE X G W a m) (hb : SE X G W b n) : SE X G W (.IfExp c' a b pos) (mIf t m n) :=
  pe_wk (pe_ifExp h ha hb) fun σ H Q q => (rdTE q).mono fun b H1 z => by
    cases b with
    | true => exact z
    | false => exact z
/-- a and b, a or b, not a as values, of bools -/
def kAndV (u : ME) : Bool → ME
  | true => u
  | false => mC (.bl false)
def kOrV (u : ME) : Bool → ME
  | true => mC (.bl true)
  | false => u
def kNotV : Bool → ME
  | true => mC (.bl false)
  | false => mC (.bl true)
abbrev mAndV (m u : ME) : ME := tThen (mB m) (kAndV u)
abbrev mOrV (m u : ME) : ME := tThen (mB m) (kOrV u)
abbrev mNotV (m : ME) : ME := tThen (mB m) kNotV
theorem se_one {op} {m : ME} (h : SE X G W a m) : SE X G W (.BoolOp op [a] pos) m := pe_one h
theorem se_and {m u : ME} {rest : List Expr} (h : SE X G W a m) (k : SE X G W (.BoolOp .And (b :: rest) pos) u) : SE X G W (.BoolOp .And (a :: b :: rest) pos) (mAndV m u) :=
  pe_wk (pe_and h k) fun σ H Q q => (rdB (rdTE q)).mono fun v H1 ⟨k, e, z⟩ => by
    refine ⟨k, e, ?_⟩
    cases k with
    | true => exact z
    | false => exact rdC (fun _ => .bl false) z
theorem se_or {m u : ME} {rest : List Expr} (h : SE X G W a m) (k : SE X G W (.BoolOp .Or (b :: rest) pos) u) : SE X G W (.BoolOp .Or (a :: b :: rest) pos) (mOrV m u) :=
  pe_wk (pe_or h k) fun σ H Q q => (rdB (rdTE q)).mono fun v H1 ⟨k, e, z⟩ => by
    refine ⟨k, e, ?_⟩
    cases k with
    | true => exact rdC (fun _ => .bl true) z
    | false => exact z
theorem se_not {m : ME} (h : SE X G W a m) : SE X G W (.UnaryOp .Not a pos) (mNotV m) :=
  pe_wk (pe_not h) fun σ H Q q => (rdB (rdTE q)).mono fun v H1 ⟨k, e, z⟩ => by
    refine ⟨k, e, ?_⟩
    cases k with
    | true => exact rdC (fun _ => .bl false) z
    | false => exact rdC (fun _ => .bl true) z

/-! ### a < b < c, of ints -/
def dChain (f g : List D → Option D) : List D → Option D
  | [a, b, c] => match f [a, b] with
    | some (.bl true) => g [b, c]
    | some (.bl false) => some (.bl false)
    | _ => none
  | _ => none
end
end TV

/-! Tv6: chains, fields, items, slices, displays, truth. -/
namespace TV
open PySem PySem.Spec PyProof.Rows L2

/-! ### a < b < c, of ints -/
def kChain (p q : Int → Int → Bool) (oa ob oc : Opd) : List (Option D) × Env → R (D × Env) := fun x => match rds [oa, ob] x.1 x.2 with
  | some [.int i, .int j] => if p i j = true then mOp [oc] (fun ds => dIntB q (.int j :: ds)) x.2 else .ok (.bl false, x.2)
  | _ => .stuck
def mChain (p q : Int → Int → Bool) (oa ob oc : Opd) : ME := fun ρ => (ev [oa, ob] ρ).bind (kChain p q oa ob oc)
theorem rdChain {G : GG} {W : WX} {p q : Int → Int → Bool} {oa ob oc : Opd} {σ : L2.St} {H : Hp} {Q : VK} (h : rdE G W (mChain p q oa ob oc) σ H Q) :
    tChain (rI0 fun i j => .bl (p i j)) (rI0 fun i j => .bl (q i j)) (tO G W oa) (tO G W ob) (tO G W oc) σ H Q := by
  obtain ⟨ρ, re, h⟩ := h
  have k := opds_run (W := W) (os := [oa, ob]) (Q := fun vs H1 => match vs with
    | [x, y] => rI0 (fun i j => V.bl (p i j)) x y H1 fun z H3 => ∃ k, z = .bl k ∧ (if k = true then tO G W oc σ H3 fun w' H4 => rI0 (fun i j => V.bl (q i j)) y w' H4 Q else Q (.bl false) H3)
    | _ => False) re ?_
  · exact k
  · have h : postE G W ρ σ H Q ((ev [oa, ob] ρ).bind (kChain p q oa ob oc)) := h
    cases e : ev [oa, ob] ρ with
    | exc c w ρ' => rw [e] at h; exact h
    | stuck => rw [e] at h; exact h
    | ok x =>
      rw [e] at h
      obtain ⟨xs, ρ1⟩ := x
      intro vs H1 re1 fr hq
      have h : postE G W ρ σ H Q (match rds [oa, ob] xs ρ1 with
        | some [.int i, .int j] => if p i j = true then mOp [oc] (fun ds => dIntB q (.int j :: ds)) ρ1 else .ok (.bl false, ρ1)
        | _ => .stuck) := h
      split at h
      · rename_i i j e2
        have s := hq _ e2
        cases s with
        | cons s1 s =>
          cases s with
          | cons s2 s =>
            cases s
            rw [s1.intOf, s2.intOf]
            refine ⟨i, j, rfl, rfl, p i j, rfl, ?_⟩
            cases c : p i j with
            | true =>
              rw [c, if_pos rfl] at h
              rw [if_pos rfl]
              have h2 : rdE G W (mOp [oc] (fun ds => dIntB q (.int j :: ds))) σ H1 Q := ⟨ρ1, re1, h.ahead fr⟩
              exact mOp1_rd (r := fun w' H4 Q => rI0 (fun i j => V.bl (q i j)) (.int j) w' H4 Q) (fun H x d z Q r1 ef g => (v2_intB (G := G) (p := q)) H (.int j) x (.int j) d z Q (RV.rs (.int j)) r1 ef g) h2
            | false =>
              rw [c, if_neg Bool.false_ne_true] at h
              rw [if_neg Bool.false_ne_true]
              exact h _ H1 re1 fr (Res.of_rv (.bl false))
      · exact h.elim
section
variable {X : Cx} {G : GG} {W : WX} {pos : Pos} {a b c' : Expr} {oa ob oc : Opd}
theorem se_chain {op op' : CmpOp} {p q : Int → Int → Bool} (ho : OpR X (compareOp op) (rI0 fun i j => .bl (p i j))) (ho' : OpR X (compareOp op') (rI0 fun i j => .bl (q i j))) (ha : SO X G W a oa) (hb : SO X G W b ob) (hc : SO X G W c' oc)
    (hm : lastMarks [op, op'] [b, c'] = false := by with_unfolding_all rfl) : SE X G W (.Compare a [op, op'] [b, c'] pos) (mChain p q oa ob oc) := pe_wk (pe_chain ho ho' ha hb hc hm) fun σ H Q h => rdChain h
theorem st_chain {op op' : CmpOp} {p q : Int → Int → Bool} (ho : OpR X (compareOp op) (rI0 fun i j => .bl (p i j))) (ho' : OpR X (compareOp op') (rI0 fun i j => .bl (q i j))) (ha : SO X G W a oa) (hb : SO X G W b ob) (hc : SO X G W c' oc)
    (hm : lastMarks [op, op'] [b, c'] = false := by with_unfolding_all rfl) : ST X G W (.Compare a [op, op'] [b, c'] pos) (mB (mChain p q oa ob oc)) := pt_wk (pt_chain ho ho' ha hb hc hm) fun σ H Q h => rdChain (rdB h)
end

/-! ### fields -/
/-- what the classes are: their fields are plain -/
structure Flds (G : GG) (f : Str) : Prop where
  cls : ∀ c, f ∈ G.nm c → Cls G.K (G.cl c) ∧ NoAttr G.K (G.cl c) f
def dFld (nm : Nat → List Str) (f : Str) : List D → Option D
  | [.ins c fs] => ((nm c).zip fs).lookup f
  | _ => none
theorem look_zip {G : GG} {H : Hp} {f : Str} : ∀ {ns : List Str} {ds : List D} {vs : List V} {d : D}, RVs G H ds vs → (ns.zip ds).lookup f = some d → f ∈ ns ∧ ∃ v, (ns.zip vs).lookup f = some v ∧ RV G H d v
  | [], _, _, _, _, e => by simp at e
  | n :: ns, _, _, _, .nil, e => by simp at e
  | n :: ns, _, _, d', .cons (d := d) (v := v) h r, e => by
    rw [List.zip_cons_cons, List.lookup_cons] at e
    rw [List.zip_cons_cons, List.lookup_cons]
    cases c : f == n with
    | true =>
      rw [c] at e
      cases e
      exact ⟨by rw [eq_of_beq c]; exact List.mem_cons_self, v, rfl, h⟩
    | false =>
      rw [c] at e
      obtain ⟨q1, q2⟩ := look_zip r e
      exact ⟨List.mem_cons_of_mem _ q1, q2⟩
theorem v1_fld {G : GG} {f : Str} (F : Flds G f) : V1 G (fun x H1 Q => ∃ a C dx fs v, x = .ref a ∧ H1 a = some (.ins C dx fs) ∧ Cls G.K C ∧ NoAttr G.K C f ∧ fs.lookup f = some v ∧ Q v H1) (dFld G.nm f) := by
  intro H x d z Q h ef g
  unfold dFld at ef
  split at ef
  · rename_i c fs q
    cases q
    cases h with
    | ins h l r =>
      obtain ⟨m, v, e, rv⟩ := look_zip r ef
      exact ⟨_, _, _, _, v, rfl, h, (F.cls c m).1, (F.cls c m).2, e, g.val rv⟩
  · cases ef
section
variable {X : Cx} {G : GG} {W : WX} {pos : Pos} {e a b : Expr} {o oa ob : Opd}
theorem se_fld {f : Str} (c : CT X G W) (F : Flds G f) (h : SO X G W e o) (hb : attributeBase e f X.env (eval e X.env) = eval e X.env := by rfl) : SE X G W (.Attribute e f pos) (mOp [o] (dFld G.nm f)) :=
  pe_wk (pe_fld h hb) fun σ H Q q => by
    have := mOp1_rd (v1_fld F) q
    rw [← c.k]
    exact this

/-! ### items -/
def dIx : List D → Option D
  | [s, .int i] => match s with
    | .str z => if z.length ≤ sizeLine then (atI z.cps.toList i).map fun c => .str ⟨#[c]⟩ else none
    | _ => (dItems s).bind fun xs => atI xs i
  | _ => none
theorem RVs.atI {H : Hp} {ds : List D} {vs : List V} {i : Int} {d : D} (r : RVs G H ds vs) (e : L2.atI ds i = some d) : ∃ v, L2.atI vs i = some v ∧ RV G H d v := by
  unfold L2.atI at e ⊢
  rw [← r.length]
  cases z : ixN ds.length i with
  | none => rw [z] at e; cases e
  | some j => rw [z] at e; exact r.get e
theorem v2_ix : V2 G (rIx G.K) dIx := by
  intro H x y d e z Q h1 h2 ef g
  unfold dIx at ef
  split at ef
  · rename_i s i q
    cases q
    rw [h2.intOf]
    split at ef
    · rename_i z'
      split at ef
      · rename_i l
        rw [h1.strOf]
        rw [Option.map_eq_some_iff] at ef
        obtain ⟨c, e1, rfl⟩ := ef
        exact .inr (.inr ⟨_, i, c, rfl, rfl, l, e1, g.val (.str _)⟩)
      · cases ef
    · rw [Option.bind_eq_some_iff] at ef
      obtain ⟨xs, e1, e2⟩ := ef
      obtain ⟨p, vs, rfl, sq, r⟩ := h1.items e1
      obtain ⟨v, e3, rv⟩ := r.atI e2
      rcases sq with sq | sq
      · exact .inl ⟨p, vs, i, v, rfl, rfl, sq, e3, g.val rv⟩
      · exact .inr (.inl ⟨p, vs, i, v, rfl, rfl, sq, e3, g.val rv⟩)
  · cases ef
theorem se_ix (c : CT X G W) (ha : SO X G W a oa) (hb : SO X G W b ob) (hs : PlainIx b := by exact fun _ _ => rfl) : SE X G W (.Subscript a b pos) (mOp [oa, ob] dIx) :=
  pe_wk (pe_ix (r := rIx G.K) (by rw [c.k]; exact ix_seq) ha hb hs) fun σ H Q q => mOp2_rd v2_ix q

/-! ### displays -/
def dTup (ds : List D) : Option D := if ds.all (fun d => !d.own) = true ∧ ds.length ≤ sizeLine then some (.tup ds) else none
def dLst (ds : List D) : Option D := if ds.all (fun d => !d.own) = true ∧ ds.length ≤ sizeLine then some (.lst ds) else none
theorem RSs.rvs {H : Hp} : ∀ {ds : List D} {vs : List V}, RSs G H ds vs → ds.all (fun d => !d.own) = true → RVs G H ds vs
  | _, _, .nil, _ => .nil
  | _, _, .cons h r, e => by
    rw [List.all_cons, Bool.and_eq_true] at e
    exact .cons (h.rv (by simpa using e.1)) (r.rvs e.2)
theorem vn_tup {n : Nat} : VN G n (fun xs H1 Q => xs.length ≤ sizeLine ∧ NewT xs H1 Q) dTup := by
  intro H vs ds z Q _ rs ef g
  unfold dTup at ef
  split at ef
  · rename_i c
    cases ef
    have r := rs.rvs c.1
    exact ⟨by rw [← r.length]; exact c.2, g.tup r⟩
  · cases ef
theorem vn_lst {n : Nat} : VN G n (fun xs H1 Q => xs.length ≤ sizeLine ∧ ∀ p, H1 p = none → Q (.ref p) (upd H1 p (.lst xs))) dLst := by
  intro H vs ds z Q _ rs ef g
  unfold dLst at ef
  split at ef
  · rename_i c
    cases ef
    have r := rs.rvs c.1
    exact ⟨by rw [← r.length]; exact c.2, g.lst r⟩
  · cases ef
theorem se_tup {es : List Expr} {os : List Opd} {x1} (h : SOs X G W es os) : SE X G W (.Tuple es x1 pos) (mOp os dTup) := pe_wk (pe_tupF h) fun σ H Q q => mOp_rd vn_tup q
theorem se_lst {es : List Expr} {os : List Opd} (h : SOs X G W es os) : SE X G W (.List es pos) (mOp os dLst) := pe_wk (pe_lst h) fun σ H Q q => mOp_rd vn_lst q

/-! ### truth -/
def D.tru : D → Option Bool
  | .non => some false
  | .bl b => some b
  | .int i => some (i != 0)
  | .tup xs => some (!xs.isEmpty)
  | .lst xs => some (!xs.isEmpty)
  | .frl xs => some (!xs.isEmpty)
  | .dic ks _ => some (!ks.isEmpty)
  | _ => none
theorem isEmpty_len {α β : Type} {xs : List α} {ys : List β} (h : xs.length = ys.length) : xs.isEmpty = ys.isEmpty := by
  cases xs <;> cases ys <;> simp at h ⊢
theorem RS.tru {H : Hp} {d : D} {v : V} {k : Bool} (h : RS G H d v) (e : d.tru = some k) : TruV G.K v H k := by
  cases d with
  | non => rw [h.nonOf]; cases e; rfl
  | bl b => rw [h.blOf]; cases e; rfl
  | int i => rw [h.intOf]; cases e; rfl
  | str x => cases e
  | ins c fs => cases e
  | tup xs =>
    obtain ⟨a, vs, rfl, s, r⟩ := h.tupOf
    cases e
    exact .inr (.inl ⟨vs, s.sqt, by rw [isEmpty_len r.length]⟩)
  | lst xs =>
    obtain ⟨a, vs, rfl, s, r⟩ := h.lstOf
    cases e
    exact .inl ⟨vs, SqL.of s, by rw [isEmpty_len r.length]⟩
  | frl xs =>
    obtain ⟨a, vs, rfl, s, r⟩ := h.frlOf
    cases e
    exact .inl ⟨vs, s, by rw [isEmpty_len r.length]⟩
  | dic ks ds =>
    obtain ⟨a, vs, rfl, s, l, r⟩ := h
    cases e
    refine .inr (.inr ⟨_, s, ?_⟩)
    have e1 : (ks.zip vs).length = ks.length := by
      have := r.length
      rw [List.length_zip]
      omega
    rw [isEmpty_len e1]
def dTru : List D → Option D
  | [d] => d.tru.map .bl
  | _ => none
/-- a value's truth, as a test -/
theorem st_truth (c : CT X G W) (h : SO X G W a oa) (he : ∀ whole, isTrue a X.env whole = (do let v ← whole; standAt a.pos; holding [v] (truthy v)) := by intro _; rfl) : ST X G W a (mB (mOp [oa] dTru)) :=
  pt_wk (pt_truth h he) fun σ H Q q => by
    have := mOp1_rd (r := fun x H1 Q => ∃ k, TruV G.K x H1 k ∧ Q (.bl k) H1) (fun H x d z Q r ef g => by
      have ef : d.tru.map D.bl = some z := ef
      rw [Option.map_eq_some_iff] at ef
      obtain ⟨k, e, rfl⟩ := ef
      exact ⟨k, r.tru e, g.val (.bl k)⟩) (rdB q)
    rw [← c.k]
    cases oa with
    | var i p =>
      obtain ⟨v, e1, m, k, t, k', e2, z⟩ := this
      cases e2
      exact ⟨v, e1, m, k, t, z⟩
    | tmp m p =>
      exact rdE.mono this fun v H1 ⟨mm, k, t, k', e2, z⟩ => by
        cases e2
        exact ⟨mm, k, t, z⟩
end
end TV

/-! Tv7: calls of built-ins. -/
namespace TV
open PySem PySem.Spec PyProof.Rows L2

section
variable {X : Cx} {G : GG} {W : WX} {pos p : Pos} {x : Str} {id T : String} {e : Expr} {es : List Expr} {os : List Opd} {r : List V → Hp → VK → Prop} {f : List D → Option D}
theorem se_callB (hc : CallR X (.builtin id) r) (hv : VN G os.length r f) (hg : Gl X x) (hm : X.mg x = none) (hb : bootBuiltins x = some (.builtin id)) (ha : SOs X G W (e :: es) os) (hn : x ≠ "__name__" := by decide) (hdb : (x == ("__debug__" : Str)) = false := by decide)
    (he : starEach (e :: es) X.env = (false, eval e X.env) :: starEach es X.env := by rfl) (hpl : (backTo pos (starEach es X.env)).any (·.1) = false := by rfl) : SE X G W (.Call (.Name x p) (e :: es) [] pos) (mOp os f) :=
  pe_wk (pe_callB hc hg hm hb ha hn hdb he hpl) fun σ H Q q => mOp_rd hv q
theorem se_callT (hc : CallR X (.type T) r) (hv : VN G os.length r f) (hg : Gl X x) (hm : X.mg x = none) (hb : bootBuiltins x = some (.type T)) (ha : SOs X G W (e :: es) os) (hn : x ≠ "__name__" := by decide) (hdb : (x == ("__debug__" : Str)) = false := by decide)
    (he : starEach (e :: es) X.env = (false, eval e X.env) :: starEach es X.env := by rfl) (hpl : (backTo pos (starEach es X.env)).any (·.1) = false := by rfl) : SE X G W (.Call (.Name x p) (e :: es) [] pos) (mOp os f) :=
  pe_wk (pe_callTy hc hg hm hb ha hn hdb he hpl) fun σ H Q q => mOp_rd hv q
end
/-- VN of one, of two -/
theorem VN.one {G : GG} {r : List V → Hp → VK → Prop} {f : List D → Option D} (h : ∀ (H : Hp) (x : V) (d z : D) (Q : VK), RS G H d x → f [d] = some z → Gives G H z Q → r [x] H Q) : VN G 1 r f := fun H vs ds z Q ln rs e g => by
  cases rs with
  | nil => cases ln
  | cons h1 rs =>
    cases rs with
    | nil => exact h H _ _ z Q h1 e g
    | cons _ _ => cases ln
theorem VN.two {G : GG} {r : List V → Hp → VK → Prop} {f : List D → Option D} (h : ∀ (H : Hp) (x y : V) (d e z : D) (Q : VK), RS G H d x → RS G H e y → f [d, e] = some z → Gives G H z Q → r [x, y] H Q) : VN G 2 r f := fun H vs ds z Q ln rs e g => by
  cases rs with
  | nil => cases ln
  | cons h1 rs =>
    cases rs with
    | nil => cases ln
    | cons h2 rs =>
      cases rs with
      | nil => exact h H _ _ _ _ z Q h1 h2 e g
      | cons _ _ => cases ln

/-! ### len, abs, min, max, int, bool -/
def dLen : List D → Option D
  | [.str z] => if z.length ≤ sizeLine then some (.int z.length) else none
  | [.dic ks _] => some (.int ks.length)
  | [s] => (dItems s).map fun xs => .int xs.length
  | _ => none
abbrev rLen (K : PySem.W.Frag) : List V → Hp → VK → Prop := fun xs H Q => (∃ p ys, xs = [.ref p] ∧ (SqL K H p ys ∨ SqT K H p ys) ∧ Q (.int ys.length) H) ∨ (∃ z, xs = [.str z] ∧ z.length ≤ sizeLine ∧ Q (.int z.length) H) ∨
  (∃ a kvs, xs = [V.ref a] ∧ H a = some (.dK kvs) ∧ Q (.int kvs.length) H)
theorem call_lenAll {X : Cx} : CallR X (.builtin "len") (rLen X.K) := call_len_seq.or (call_len_str.or call_lenD)
theorem vn_len {G : GG} : VN G 1 (rLen G.K) dLen := VN.one fun H x d z Q h ef g => by
  unfold dLen at ef
  split at ef
  · rename_i y q
    cases q
    split at ef
    · rename_i l
      cases ef
      rw [h.strOf]
      exact .inr (.inl ⟨y, rfl, l, g.val (.int _)⟩)
    · cases ef
  · rename_i ks ds q
    cases q
    cases ef
    obtain ⟨a, vs, rfl, s, l, r⟩ := h
    have e1 : (ks.zip vs).length = ks.length := by
      have := r.length
      rw [List.length_zip]
      omega
    refine .inr (.inr ⟨a, _, rfl, s, ?_⟩)
    rw [e1]
    exact g.val (.int _)
  · rename_i s _ _ q
    cases q
    rw [Option.map_eq_some_iff] at ef
    obtain ⟨xs, e, rfl⟩ := ef
    obtain ⟨p, vs, rfl, sq, r⟩ := h.items e
    refine .inl ⟨p, vs, rfl, sq, ?_⟩
    rw [← r.length]
    exact g.val (.int _)
  · cases ef
def dAbs : List D → Option D
  | [.int i] => some (.int (if i < 0 then -i else i))
  | _ => none
theorem vn_abs {G : GG} : VN G 1 (fun xs H Q => ∃ i, xs = [.int i] ∧ Q (.int (if i < 0 then -i else i)) H) dAbs := VN.one fun H x d z Q h ef g => by
  unfold dAbs at ef
  split at ef
  · rename_i i q
    cases q; cases ef
    rw [h.intOf]
    exact ⟨i, rfl, g.val (.int _)⟩
  · cases ef
def dMax2 : List D → Option D
  | [.int i, .int j] => some (.int (if j > i then j else i))
  | _ => none
theorem vn_max2 {G : GG} : VN G 2 (fun xs H Q => ∃ i j, xs = [.int i, .int j] ∧ Q (.int (if j > i then j else i)) H) dMax2 := VN.two fun H x y d e z Q h1 h2 ef g => by
  unfold dMax2 at ef
  split at ef
  · rename_i i j q
    cases q; cases ef
    rw [h1.intOf, h2.intOf]
    exact ⟨i, j, rfl, g.val (.int _)⟩
  · cases ef
def dMin2 : List D → Option D
  | [.int i, .int j] => some (.int (if j < i then j else i))
  | _ => none
theorem vn_min2 {G : GG} : VN G 2 (fun xs H Q => ∃ i j, xs = [.int i, .int j] ∧ Q (.int (if j < i then j else i)) H) dMin2 := VN.two fun H x y d e z Q h1 h2 ef g => by
  unfold dMin2 at ef
  split at ef
  · rename_i i j q
    cases q; cases ef
    rw [h1.intOf, h2.intOf]
    exact ⟨i, j, rfl, g.val (.int _)⟩
  · cases ef
def dInt : List D → Option D
  | [.int i] => some (.int i)
  | [.bl k] => some (.int (if k then 1 else 0))
  | _ => none
theorem vn_int {G : GG} : VN G 1 (fun xs H Q => (∃ i, xs = [.int i] ∧ Q (.int i) H) ∨ ∃ k, xs = [.bl k] ∧ Q (.int (if k then 1 else 0)) H) dInt := VN.one fun H x d z Q h ef g => by
  unfold dInt at ef
  split at ef
  · rename_i i q
    cases q; cases ef
    rw [h.intOf]
    exact .inl ⟨i, rfl, g.val (.int _)⟩
  · rename_i k q
    cases q; cases ef
    rw [h.blOf]
    exact .inr ⟨k, rfl, g.val (.int _)⟩
  · cases ef

/-! ### tuple, list -/
def dTupOf : List D → Option D
  | [s] => (dItems s).map .tup
  | _ => none
theorem vn_tupOf {G : GG} : VN G 1 (rTupF G.K) dTupOf := VN.one fun H x d z Q h ef g => by
  have ef : (dItems d).map D.tup = some z := ef
  rw [Option.map_eq_some_iff] at ef
  obtain ⟨xs, e, rfl⟩ := ef
  cases d with
  | tup ds =>
    cases e
    obtain ⟨a, vs, rfl, s, r⟩ := h.tupOf
    exact ⟨a, vs, rfl, .inr ⟨s.sqt, g.val (.tup s r)⟩⟩
  | lst ds =>
    cases e
    obtain ⟨a, vs, rfl, s, r⟩ := h.lstOf
    exact ⟨a, vs, rfl, .inl ⟨SqL.of s, g.tup r⟩⟩
  | frl ds =>
    cases e
    obtain ⟨a, vs, rfl, s, r⟩ := h.frlOf
    exact ⟨a, vs, rfl, .inl ⟨s, g.tup r⟩⟩
  | _ => cases e
def dLstOf : List D → Option D
  | [s] => (dItems s).map .lst
  | _ => none
theorem vn_lstOf {G : GG} : VN G 1 (fun xs H Q => ∃ p ys, xs = [.ref p] ∧ (SqL G.K H p ys ∨ SqT G.K H p ys) ∧ ∀ l, H l = none → Q (.ref l) (upd H l (.lst ys))) dLstOf := VN.one fun H x d z Q h ef g => by
  have ef : (dItems d).map D.lst = some z := ef
  rw [Option.map_eq_some_iff] at ef
  obtain ⟨xs, e, rfl⟩ := ef
  obtain ⟨p, vs, rfl, sq, r⟩ := h.items e
  exact ⟨p, vs, rfl, sq, g.lst r⟩

/-! ### ints in a row: sum, max, min, sorted -/
def dInts : List D → Option (List Int)
  | [] => some []
  | .int i :: ds => (dInts ds).map (i :: ·)
  | _ => none
theorem dInts_eq : ∀ {ds : List D} {ns : List Int}, dInts ds = some ns → ds = ns.map D.int
  | [], _, e => by cases e; rfl
  | d :: ds, ns, e => by
    cases d with
    | int i =>
      have e : (dInts ds).map (i :: ·) = some ns := e
      rw [Option.map_eq_some_iff] at e
      obtain ⟨ms, e1, rfl⟩ := e
      rw [dInts_eq e1]
      rfl
    | _ => cases e
theorem dInts_map (ns : List Int) : dInts (ns.map D.int) = some ns := by
  induction ns with
  | nil => rfl
  | cons n ns ih =>
    show (dInts (ns.map D.int)).map (n :: ·) = _
    rw [ih]
    rfl
/-- a list (of one's own, or locked) of ints -/
def dLInts : D → Option (List Int)
  | .lst xs => dInts xs
  | .frl xs => dInts xs
  | _ => none
theorem RS.lInts {G : GG} {H : Hp} {d : D} {v : V} {ns : List Int} (h : RS G H d v) (e : dLInts d = some ns) : ∃ a, v = .ref a ∧ SqL G.K H a (ns.map V.int) := by
  cases d with
  | lst ds =>
    obtain ⟨a, vs, rfl, s, r⟩ := h.lstOf
    have e := dInts_eq (show dInts ds = some ns from e)
    subst e
    rw [r.ints] at s
    exact ⟨a, rfl, SqL.of s⟩
  | frl ds =>
    obtain ⟨a, vs, rfl, s, r⟩ := h.frlOf
    have e := dInts_eq (show dInts ds = some ns from e)
    subst e
    rw [r.ints] at s
    exact ⟨a, rfl, s⟩
  | _ => cases e
def dSum : List D → Option D
  | [s] => (dLInts s).map fun ns => .int ns.sum
  | _ => none
theorem vn_sum {G : GG} : VN G 1 (rSum G.K) dSum := VN.one fun H x d z Q h ef g => by
  have ef : (dLInts d).map (fun ns => D.int ns.sum) = some z := ef
  rw [Option.map_eq_some_iff] at ef
  obtain ⟨ns, e, rfl⟩ := ef
  obtain ⟨a, rfl, s⟩ := h.lInts e
  exact ⟨a, ns, rfl, s, g.val (.int _)⟩
/-- sorted, by putting one behind another in its place -/
def insI (x : Int) : List Int → List Int
  | [] => [x]
  | y :: ys => if y < x then y :: insI x ys else x :: y :: ys
def sortI : List Int → List Int
  | [] => []
  | x :: xs => insI x (sortI xs)
theorem insI_perm (x : Int) : ∀ ys, (insI x ys).Perm (x :: ys)
  | [] => .refl _
  | y :: ys => by
    unfold insI
    split
    · exact ((insI_perm x ys).cons y).trans (.swap x y ys)
    · exact .refl _
theorem sortI_perm : ∀ xs, (sortI xs).Perm xs
  | [] => .refl _
  | x :: xs => (insI_perm x _).trans ((sortI_perm xs).cons x)
theorem insI_sorted (x : Int) : ∀ {ys : List Int}, ys.Pairwise (· ≤ ·) → (insI x ys).Pairwise (· ≤ ·)
  | [], _ => by simp [insI]
  | y :: ys, h => by
    unfold insI
    rw [List.pairwise_cons] at h
    split
    · rename_i c
      refine List.pairwise_cons.mpr ⟨fun z hz => ?_, insI_sorted x h.2⟩
      rcases List.mem_cons.mp ((insI_perm x ys).mem_iff.mp hz) with e | m
      · omega
      · exact h.1 z m
    · rename_i c
      refine List.pairwise_cons.mpr ⟨fun z hz => ?_, List.pairwise_cons.mpr h⟩
      rcases List.mem_cons.mp hz with e | m
      · omega
      · have := h.1 z m
        omega
theorem sortI_sorted : ∀ xs : List Int, (sortI xs).Pairwise (· ≤ ·)
  | [] => List.Pairwise.nil
  | x :: xs => insI_sorted x (sortI_sorted xs)
theorem sortI_uniq {ys xs : List Int} (p : ys.Perm xs) (h : ys.Pairwise (· ≤ ·)) : ys = sortI xs := PySem.W.ksm_same (p.trans (sortI_perm xs).symm) h (sortI_sorted xs)
def dSortL : List D → Option D
  | [s] => (dLInts s).map fun ns => .lst ((sortI ns).map .int)
  | _ => none
theorem vn_sortL {G : GG} : VN G 1 (rSortedI G.K) dSortL := VN.one fun H x d z Q h ef g => by
  have ef : (dLInts d).map (fun ns => D.lst ((sortI ns).map .int)) = some z := ef
  rw [Option.map_eq_some_iff] at ef
  obtain ⟨ns, e, rfl⟩ := ef
  obtain ⟨a, rfl, s⟩ := h.lInts e
  refine ⟨a, ns, rfl, s, fun ns' p pm ps hp => ?_⟩
  rw [sortI_uniq pm ps]
  exact g.lst (RVs.of_ints _) p hp
end TV

/-! Tv8: sorted of tuples, of dicts, of pairs; the greatest and the least; a stone's place. -/
namespace TV
open PySem PySem.Spec PyProof.Rows L2
section
variable {prog : Program} {w : World} {A : Around} {E : Value → Shared → Prop} {s : Shared}
/-- a tuple's items gathered into a list -/
theorem collect_tup {l : Addr} {vs : List Value} {Q : List Value → Shared → Prop} (ht : IsTup s.heap l vs.toArray) (hsz : vs.length ≤ sizeLine)
    (h : Q vs { s with heap := (s.heap.push (seqObj "list" #[] 0)).update s.heap.objs.size (Obj.mapSeq (· ++ vs.toArray)) }) : wpAny (model prog w) A (collect (.ref l)) Q E s := by
  obtain ⟨ob, ho, hc, n, hd⟩ := ht
  have kept : (s.heap.push (seqObj "list" #[] 0)).get? l = some ob := Heap.get?_push_of_some _ ho
  have new : (s.heap.push (seqObj "list" #[] 0)).get? s.heap.objs.size = some (seqObj "list" #[] 0) := Heap.get?_push_size _ rfl
  unfold collect
  refine wpAny_bind (wpAny_runValue (codeAny_builtin entry_proto_collect' ?_))
  refine wpAny_bind (wpAny_newList (wpAny_pure ⟨Code.quiet_builtin _ (by decide +kernel), codeAny_builtin entry_list_iadd' ?_⟩))
  show wpAny _ _ (Builtin.List.listExtendWith (.ref s.heap.objs.size) (.ref l) (.ref s.heap.objs.size)) _ _ { s with heap := s.heap.push (seqObj "list" #[] 0) }
  unfold Builtin.List.listExtendWith
  refine wpAny_bind (wpAny_typeOf (T := "tuple") ⟨ob, kept, hc⟩ ?_)
  rw [if_pos (by rw [show (Value.type "tuple" == Value.type "tuple") = true from rfl, Bool.or_true])]
  refine wpAny_bind (listItems_at kept hd (wpAny_bind (listItems_at (xs := #[]) (n := 0) new rfl ?_)))
  rw [if_neg (by simp)]
  refine wpAny_bind (listUpdate_at (xs := #[]) (n := 0) new rfl (wpAny_pure ?_) (Nat.zero_le _) (by rw [Array.size_append, List.size_toArray]; show 0 + vs.length ≤ sizeLine + 1; omega))
  show wpAny (model prog w) A (load s.heap.objs.size >>= fun ob => match ob.data with
      | .seq xs _ => pure xs.toList
      | _ => unsupported "internal:collect") Q E { s with heap := (s.heap.push (seqObj "list" #[] 0)).update s.heap.objs.size (Obj.mapSeq (· ++ vs.toArray)) }
  refine wpAny_bind (wpAny_load (get?_update_seq new _) (wpAny_pure ?_))
  have e : ((#[] : Array Value) ++ vs.toArray).toList = vs := by simp
  rw [e]
  exact h
/-- sorted of a tuple, by the layer's sort under an order -/
theorem sorted_tup {l : Addr} {vs : List Value} {lt : Value → Value → Bool} {Q : Value → Shared → Prop} (O : SrtO.Swo lt) (ht : IsTup s.heap l vs.toArray) (hz : vs.length ≤ sizeLine)
    (hS : 2 ≤ vs.length → ∀ (h₁ : Heap) (a : Addr), h₁.get? a = some (seqObj "list" vs.toArray 0) → (∀ b o, s.heap.get? b = some o → b ≠ a ∧ h₁.get? b = some o) → SrtO.SortableO prog w A.in1.in1 { s with heap := h₁ } a vs lt)
    (h : ∀ out : List Value, SrtO.Srtd lt out → SrtO.Stb lt out vs → Q (.ref (s.heap.objs.size + 1)) { s with heap := sortedAll s.heap vs out.toArray }) : wpAny (model prog w) A (call (.builtin "sorted") [.ref l]) Q E s := by
  have z1 : ((s.heap.push (seqObj "list" #[] 0)).update s.heap.objs.size (Obj.mapSeq (· ++ vs.toArray))).objs.size = s.heap.objs.size + 1 := by
    rw [Heap.size_update, size_push']
  have z2 : (((s.heap.push (seqObj "list" #[] 0)).update s.heap.objs.size (Obj.mapSeq (· ++ vs.toArray))).push (seqObj "list" vs.toArray 0)).get? ((s.heap.push (seqObj "list" #[] 0)).update s.heap.objs.size (Obj.mapSeq (· ++ vs.toArray))).objs.size = some (seqObj "list" vs.toArray 0) := Heap.get?_push_size _ rfl
  rw [z1] at z2
  refine Calls.call_function_entry kind_sorted plain_sorted entry_sorted (args_sorted1 _) ?_
  unfold Builtin.«sorted»
  refine wpAny_bind (m := checkCount "sorted" 1 1 _) (wpAny_pure (wpAny_bind (collect_tup ht hz (wpAny_bind (wpAny_newList ?_ hz)))))
  show wpAny _ _ _ _ _ { s with heap := ((s.heap.push (seqObj "list" #[] 0)).update s.heap.objs.size (Obj.mapSeq (· ++ vs.toArray))).push (seqObj "list" vs.toArray 0) }
  rw [z1]
  refine wpAny_bind (wpAny_holding (wpAny_call_entry slot_list_sort ⟨_, z2, rfl⟩ entry_list_sort (SrtO.list_sort_ord O z2 hz (fun h2 => hS h2 _ _ z2 fun b o q => ?_) fun out hs hb => ⟨_, rfl, ?_⟩) (args_list_sort _)))
  · have lb : b < s.heap.objs.size := Heap.lt_size q
    refine ⟨Nat.ne_of_lt (Nat.lt_succ_of_lt lb), Heap.get?_push_of_some _ ?_⟩
    rw [Heap.get?_update_ne _ _ _ _ (Nat.ne_of_lt lb)]
    exact Heap.get?_push_of_some _ q
  · exact wpAny_pure ⟨_, rfl, h out hs hb⟩
end
section
variable {X : Cx}
/-- sorted of a tuple of ints -/
def rSortT (K : PySem.W.Frag) : List V → Hp → VK → Prop := fun vs H Q => ∃ (a : Addr) (ns : List Int), vs = [V.ref a] ∧ SqT K H a (ns.map V.int) ∧
  ∀ (ms : List Int) (p : Addr), ms.Perm ns → ms.Pairwise (· ≤ ·) → H p = none → Q (.ref p) (upd H p (.lst (ms.map V.int)))
theorem cr_sortT : CallR X (.builtin "sorted") (rSortT X.K) := by
  rintro pins s σ H vs us Q I r ⟨a, ns, rfl, hs, q⟩
  obtain ⟨it, rv, ht, hz⟩ := I.tuple hs
  rw [Vals.ref1 r]
  have hi := rv.ints
  refine sorted_tup SrtO.swo_int ht (by rw [← rv.length]; exact hz) (fun h2 _ _ _ _ => SrtO.ints_sortable hi h2) fun out h1 h2 => ?_
  obtain ⟨k1, k2, k3⟩ := SrtO.ints_out hi h1 h2
  obtain ⟨ep, at'⟩ := PyProof.Rows.sortedAll_at s.heap it out.toArray
  have ln : ((out.map SrtO.iv).map V.int).length ≤ sizeLine := by
    rw [List.length_map] at hz ⊢
    rw [k2.length_eq]
    exact hz
  have I2 := I.laid (a := s.heap.objs.size + 1) (o := .lst ((out.map SrtO.iv).map V.int)) (t' := s.toks) (h' := sortedAll s.heap it out.toArray) (fun _ _ => PyProof.Rows.sortedAll_old) (Nat.le_succ _) ⟨ln, out, ep, vals_of_ints k1, at'⟩
  exact ⟨V.ref (s.heap.objs.size + 1), _, I2, rfl, q _ _ k2 k3 (I.hok.fresh (Nat.le_succ _))⟩
end
def dTInts : D → Option (List Int)
  | .tup xs => dInts xs
  | _ => none
theorem RS.tInts {G : GG} {H : Hp} {d : D} {v : V} {ns : List Int} (h : RS G H d v) (e : dTInts d = some ns) : ∃ a, v = .ref a ∧ TupS G.K H a (ns.map V.int) := by
  cases d with
  | tup ds =>
    obtain ⟨a, vs, rfl, s, r⟩ := h.tupOf
    have e := dInts_eq (show dInts ds = some ns from e)
    subst e
    rw [r.ints] at s
    exact ⟨a, rfl, s⟩
  | _ => cases e
def dSortT : List D → Option D
  | [s] => (dTInts s).map fun ns => .lst ((sortI ns).map .int)
  | _ => none
theorem vn_sortT {G : GG} : VN G 1 (rSortT G.K) dSortT := VN.one fun H x d z Q h ef g => by
  have ef : (dTInts d).map (fun ns => D.lst ((sortI ns).map .int)) = some z := ef
  rw [Option.map_eq_some_iff] at ef
  obtain ⟨ns, e, rfl⟩ := ef
  obtain ⟨a, rfl, s⟩ := h.tInts e
  refine ⟨a, ns, rfl, s.sqt, fun ms p pm ps hp => ?_⟩
  rw [sortI_uniq pm ps]
  exact g.lst (RVs.of_ints _) p hp
/-- the keys of a dict, sorted -/
def dKInts : List Key → Option (List Int)
  | [] => some []
  | .inl i :: ks => (dKInts ks).map (i :: ·)
  | _ => none
theorem dKInts_eq : ∀ {ks : List Key} {ns : List Int}, dKInts ks = some ns → ks = ns.map Sum.inl
  | [], _, e => by cases e; rfl
  | .inl i :: ks, ns, e => by
    have e : (dKInts ks).map (i :: ·) = some ns := e
    rw [Option.map_eq_some_iff] at e
    obtain ⟨ms, e1, rfl⟩ := e
    rw [dKInts_eq e1]
    rfl
  | .inr x :: ks, ns, e => by cases e
def dSortK : List D → Option D
  | [.dic ks _] => match dKInts ks with
    | some ns => if ns.length < 64 then some (.lst ((sortI ns).map .int)) else none
    | none => none
  | _ => none
abbrev rSortK : List V → Hp → VK → Prop := fun xs H Q => ∃ (a : Addr) (kvs : List (Key × V)) (ks : List Int), xs = [.ref a] ∧ Rd H a (.dK kvs) ∧ kvs.map (·.1) = ks.map Sum.inl ∧ ks.length < 64 ∧
    ∀ (ys : List Int) (p : Addr), ys.Perm ks → ys.Pairwise (· ≤ ·) → H p = none → Q (.ref p) (upd H p (.lst (ys.map V.int)))
theorem vn_sortK {G : GG} : VN G 1 rSortK dSortK := VN.one fun H x d z Q h ef g => by
  unfold dSortK at ef
  split at ef
  · rename_i ks ds q
    cases q
    split at ef
    · rename_i ns e
      split at ef
      · rename_i l
        cases ef
        obtain ⟨a, vs, rfl, s, ln, r⟩ := h
        have e := dKInts_eq e
        subst e
        refine ⟨a, _, ns, rfl, .inl s, ?_, l, fun ms p pm ps hp => ?_⟩
        · rw [List.map_fst_zip]
          have := r.length
          omega
        · rw [sortI_uniq pm ps]
          exact g.lst (RVs.of_ints _) p hp
      · cases ef
    · cases ef
  · cases ef

/-! ### the greatest and the least of ints in a row -/
theorem reads_ints {h : Heap} : ∀ {ns : List Int} {us : List Value}, Vals (ns.map V.int) us → ∃ as, ReadsAll h us (ns.map PyData.int) as
  | [], _, .nil => ⟨_, .nil⟩
  | n :: ns, _, .cons r t => by
    obtain ⟨k, rfl⟩ := r
    obtain ⟨as, q⟩ := reads_ints (h := h) t
    exact ⟨_, .cons (.int n k) q⟩
theorem ints_alike (ns : List Int) : PySem.W.AlikeAll (ns.map PyData.int) := by
  refine ⟨fun x hx y hy => ?_, fun x hx => ?_⟩
  · obtain ⟨i, _, rfl⟩ := List.mem_map.mp hx
    obtain ⟨j, _, rfl⟩ := List.mem_map.mp hy
    unfold PySem.W.alike
    rfl
  · obtain ⟨i, _, rfl⟩ := List.mem_map.mp hx
    intro z
    cases z
theorem ints_depth (ns : List Int) : PyData.depthAll (ns.map PyData.int) ≤ 1 := by
  induction ns with
  | nil => simp [PyData.depthAll]
  | cons n ns ih =>
    rw [List.map_cons]
    simp only [PyData.depthAll, PyData.depth]
    omega
section
variable {X : Cx}
abbrev rMaxS (K : PySem.W.Frag) : List V → Hp → VK → Prop := fun vs H Q => ∃ (a : Addr) (n : Int) (ns : List Int), vs = [V.ref a] ∧ (SqL K H a ((n :: ns).map V.int) ∨ SqT K H a ((n :: ns).map V.int)) ∧ Q (.int (ns.foldl max n)) H
abbrev rMinS (K : PySem.W.Frag) : List V → Hp → VK → Prop := fun vs H Q => ∃ (a : Addr) (n : Int) (ns : List Int), vs = [V.ref a] ∧ (SqL K H a ((n :: ns).map V.int) ∨ SqT K H a ((n :: ns).map V.int)) ∧ Q (.int (ns.foldl min n)) H
theorem depth_room (hu : X.A.units + 64 < cLine) (n : Int) (ns : List Int) : X.A.units + 1 + PyData.depthAll ((n :: ns).map PyData.int) < cLine := by
  have := ints_depth (n :: ns)
  omega
theorem cr_maxS (hc : X.calm = true) (hu : X.A.units + 64 < cLine) : CallR X (.builtin "max") (rMaxS X.K) := by
  rintro pins s σ H vs us Q I r ⟨a, n, ns, rfl, hs, q⟩
  rw [Vals.ref1 r]
  have fin : ∀ (v : Value) (h' : Heap) (tk : Nat) (bs : List Addr), Reads h' v (PySem.W.maxD (.int n) (ns.map .int)) bs → (∀ b o, s.heap.get? b = some o → h'.get? b = some o) → EP X pins σ Q v { s with heap := h', toks := tk } := fun v h' tk bs rd k => by
    rw [PySem.W.maxD_ints] at rd
    cases rd with
    | int i t => exact ⟨.int _, H, I.kept k, ⟨_, rfl⟩, q⟩
  rcases hs with hs | hs
  · obtain ⟨it, rv, hl, _⟩ := I.list hs
    obtain ⟨as, ra⟩ := reads_ints (h := s.heap) rv
    exact PySem.W.max_list_data (I.ok.hd hc) hl.isList ra (ints_alike (n :: ns)) (depth_room hu n ns) fun i v h' tk bs _ rd k => fin v h' tk bs rd k
  · obtain ⟨it, rv, ht, _⟩ := I.tuple hs
    obtain ⟨as, ra⟩ := reads_ints (h := s.heap) rv
    exact PySem.W.max_tuple_data (I.ok.hd hc) ht ra (ints_alike (n :: ns)) (depth_room hu n ns) fun i v h' tk bs _ rd k => fin v h' tk bs rd k
theorem cr_minS (hc : X.calm = true) (hu : X.A.units + 64 < cLine) : CallR X (.builtin "min") (rMinS X.K) := by
  rintro pins s σ H vs us Q I r ⟨a, n, ns, rfl, hs, q⟩
  rw [Vals.ref1 r]
  have fin : ∀ (v : Value) (h' : Heap) (tk : Nat) (bs : List Addr), Reads h' v (PySem.W.minD (.int n) (ns.map .int)) bs → (∀ b o, s.heap.get? b = some o → h'.get? b = some o) → EP X pins σ Q v { s with heap := h', toks := tk } := fun v h' tk bs rd k => by
    rw [PySem.W.minD_ints] at rd
    cases rd with
    | int i t => exact ⟨.int _, H, I.kept k, ⟨_, rfl⟩, q⟩
  rcases hs with hs | hs
  · obtain ⟨it, rv, hl, _⟩ := I.list hs
    obtain ⟨as, ra⟩ := reads_ints (h := s.heap) rv
    exact PySem.W.min_list_data (I.ok.hd hc) hl.isList ra (ints_alike (n :: ns)) (depth_room hu n ns) fun i v h' tk bs _ rd k => fin v h' tk bs rd k
  · obtain ⟨it, rv, ht, _⟩ := I.tuple hs
    obtain ⟨as, ra⟩ := reads_ints (h := s.heap) rv
    exact PySem.W.min_tuple_data (I.ok.hd hc) ht ra (ints_alike (n :: ns)) (depth_room hu n ns) fun i v h' tk bs _ rd k => fin v h' tk bs rd k
end
def dSInts : D → Option (List Int) := fun d => (dItems d).bind dInts
theorem RS.sInts {G : GG} {H : Hp} {d : D} {v : V} {ns : List Int} (h : RS G H d v) (e : dSInts d = some ns) : ∃ a, v = .ref a ∧ (SqL G.K H a (ns.map V.int) ∨ SqT G.K H a (ns.map V.int)) := by
  unfold dSInts at e
  rw [Option.bind_eq_some_iff] at e
  obtain ⟨ds, e1, e2⟩ := e
  obtain ⟨p, vs, rfl, sq, r⟩ := h.items e1
  have e := dInts_eq e2
  subst e
  rw [r.ints] at sq
  exact ⟨p, rfl, sq⟩
def dMaxS : List D → Option D
  | [s] => match dSInts s with
    | some (n :: ns) => some (.int (ns.foldl max n))
    | _ => none
  | _ => none
def dMinS : List D → Option D
  | [s] => match dSInts s with
    | some (n :: ns) => some (.int (ns.foldl min n))
    | _ => none
  | _ => none
theorem vn_maxS {G : GG} : VN G 1 (rMaxS G.K) dMaxS := VN.one fun H x d z Q h ef g => by
  have ef : (match dSInts d with
    | some (n :: ns) => some (D.int (ns.foldl max n))
    | _ => none) = some z := ef
  split at ef
  · rename_i n ns e
    cases ef
    obtain ⟨a, rfl, s⟩ := h.sInts e
    exact ⟨a, n, ns, rfl, s, g.val (.int _)⟩
  · cases ef
theorem vn_minS {G : GG} : VN G 1 (rMinS G.K) dMinS := VN.one fun H x d z Q h ef g => by
  have ef : (match dSInts d with
    | some (n :: ns) => some (D.int (ns.foldl min n))
    | _ => none) = some z := ef
  split at ef
  · rename_i n ns e
    cases ef
    obtain ⟨a, rfl, s⟩ := h.sInts e
    exact ⟨a, n, ns, rfl, s, g.val (.int _)⟩
  · cases ef

/-! ### the place of a number in a tuple -/
def ixOf (k : Int) : List Int → Nat
  | [] => 0
  | n :: ns => if n = k then 0 else ixOf k ns + 1
theorem ixOf_eq (k : Int) : ∀ ns : List Int, ixOf k ns = ns.idxOf k
  | [] => rfl
  | n :: ns => by
    rw [List.idxOf_cons]
    unfold ixOf
    by_cases e : n = k
    · rw [if_pos e, e, beq_self_eq_true]
      rfl
    · rw [if_neg e, show (n == k) = false from beq_eq_false_iff_ne.mpr e, ixOf_eq k ns]
      rfl
def rIxT (K : PySem.W.Frag) : V → List V → Hp → VK → Prop := fun x xs H Q => ∃ (a : Addr) (ns : List Int) (k : Int), x = V.ref a ∧ xs = [V.int k] ∧ SqT K H a (ns.map V.int) ∧ k ∈ ns ∧ Q (.int (ixOf k ns : Nat)) H
theorem mt_ixT {X : Cx} : MtR X "tuple.index" (rIxT X.K) := by
  rintro pins s σ H x xs v us Q I rx rxs ⟨a, ns, k, rfl, rfl, hs, hk, q⟩
  obtain ⟨it, rv, ht, _⟩ := I.tuple hs
  obtain ⟨u, rfl, t, rfl⟩ := vals1 rxs
  cases rx
  rw [ixOf_eq] at q
  exact PySem.SeqAt.tuple_index_ints ht rv.ints hk ⟨.int _, H, I.tok _, ⟨_, rfl⟩, q⟩
end TV

/-! Tv9: methods of tuples and lists; what a name owns is changed. -/
namespace TV
open PySem PySem.Spec PyProof.Rows L2

def Opd.p : Opd → D → Bool
  | .var _ p => p
  | .tmp _ p => p
theorem tO_mono {G : GG} {W : WX} {o : Opd} {σ : L2.St} {H : Hp} {K K' : VK} (h : tO G W o σ H K) (f : ∀ x H1, Met G o.p x H1 → K x H1 → K' x H1) : tO G W o σ H K' := by
  cases o with
  | var i p =>
    obtain ⟨v, e, m, k⟩ := h
    exact ⟨v, e, m, f _ _ m k⟩
  | tmp m p => exact rdE.mono h fun v H1 ⟨mm, k⟩ => ⟨mm, f _ _ mm k⟩

/-- what a name owns is changed where it stands -/
theorem RE.put {G : GG} {ρ : Env} {σ : L2.St} {H : Hp} {i : Nat} {d e : D} {a : Addr} {u o : HO} (r : RE G ρ σ H) (e1 : ρ[i]? = some (some d)) (w1 : d.own = true) (s1 : σ[i]? = some (some (.ref a))) (hu : H a = some u) (fu : fixO u = false)
    (w2 : e.own = true) (rs : RS G (upd H a o) e (.ref a)) : RE G (ρ.set i (some e)) σ (upd H a o) := by
  have hi : i < ρ.length := (List.getElem?_eq_some_iff.mp e1).1
  have fx : Fix H (upd H a o) := fun b x hx f => by
    have : b ≠ a := fun z => by
      subst z
      rw [hu] at hx
      cases hx
      rw [fu] at f
      cases f
    rw [upd_ne this]
    exact hx
  have back : ∀ (j : Nat) (x : D), (ρ.set i (some e))[j]? = some (some x) → (j = i ∧ x = e) ∨ (j ≠ i ∧ ρ[j]? = some (some x)) := fun j x q => by
    by_cases c : j = i
    · subst c
      rw [List.getElem?_set_self hi] at q
      cases q
      exact .inl ⟨rfl, rfl⟩
    · rw [List.getElem?_set_ne (Ne.symm c)] at q
      exact .inr ⟨c, q⟩
  refine ⟨by rw [List.length_set]; exact r.len, fun j x q => ?_, fun j k x y b q1 q2 o1 o2 t1 t2 => ?_, G.pinOk _ _ fx r.pin, r.spin⟩
  · rcases back j x q with ⟨rfl, rfl⟩ | ⟨c, q⟩
    · exact ⟨_, s1, rs⟩
    · obtain ⟨v, s2, rs2⟩ := r.val j x q
      refine ⟨v, s2, rs2.keep fx fun b y hv ow hy => ?_⟩
      subst hv
      have : b ≠ a := fun z => by
        subst z
        exact c (r.sep j i x d b q e1 ow w1 s2 s1)
      rw [upd_ne this]
      exact hy
  · rcases back j x q1 with ⟨g1, _⟩ | ⟨_, p1⟩
    · rcases back k y q2 with ⟨g2, _⟩ | ⟨_, p2⟩
      · rw [g1, g2]
      · exact r.sep j k d y b (by rw [g1]; exact e1) p2 w1 o2 t1 t2
    · rcases back k y q2 with ⟨g2, _⟩ | ⟨_, p2⟩
      · exact r.sep j k x d b p1 (by rw [g2]; exact e1) o1 w1 t1 t2
      · exact r.sep j k x y b p1 p2 o1 o2 t1 t2
theorem own_put {ρ : Env} {σ : L2.St} {i : Nat} {d e : D} {b : Addr} (e1 : ρ[i]? = some (some d)) (w1 : d.own = true) (h : own (ρ.set i (some e)) σ b) : own ρ σ b := by
  obtain ⟨j, x, q, o, s⟩ := h
  by_cases c : j = i
  · subst c
    exact ⟨j, d, e1, w1, s⟩
  · rw [List.getElem?_set_ne (Ne.symm c)] at q
    exact ⟨j, x, q, o, s⟩
theorem Fr.put {ρ : Env} {σ : L2.St} {H : Hp} {i : Nat} {d e : D} {a : Addr} {o : HO} (e1 : ρ[i]? = some (some d)) (w1 : d.own = true) (s1 : σ[i]? = some (some (.ref a))) : Fr ρ σ H (ρ.set i (some e)) σ (upd H a o) := fun b x hb n => by
  have : b ≠ a := fun z => by
    subst z
    exact n ⟨i, d, e1, w1, s1⟩
  exact ⟨by rw [upd_ne this]; exact hb, fun z => n (own_put e1 w1 z)⟩

/-! ### methods of a tuple -/
def pTup : D → Bool
  | .tup _ => true
  | _ => false
def pLst : D → Bool
  | .lst _ => true
  | _ => false
theorem met_tup {G : GG} {x : V} {H : Hp} (m : Met G pTup x H) : ∃ a vs, x = .ref a ∧ TupS G.K H a vs := by
  obtain ⟨d, e, rs⟩ := m
  cases d with
  | tup ds =>
    obtain ⟨a, vs, rfl, s, _⟩ := rs.tupOf
    exact ⟨a, vs, rfl, s⟩
  | _ => cases e
section
variable {X : Cx} {G : GG} {W : WX} {o e : Expr} {es : List Expr} {to : TE} {t : TA} {name : Str} {apos cpos : Pos} {id : String} {r : V → List V → Hp → VK → Prop}
def tTM (K : PySem.W.Frag) (r : V → List V → Hp → VK → Prop) (to : TE) (t : TA) : TE := fun σ H Q => to σ H fun x H1 => (∃ a vs, x = .ref a ∧ TupS K H1 a vs) ∧ t σ H1 fun xs H2 => r x xs H2 Q
theorem pe_tm (slot : Slot "tuple" name id) (hty : typeOf (.builtin id) = pure (.type "method_descriptor")) (hm : MtR X id r) (ho : PE X o to) (ha : PA X (e :: es) t)
    (hbase : attributeBase o name X.env (eval o X.env) = eval o X.env := by rfl)
    (hfew : ((backTo cpos (starEach (e :: es) X.env)).all (fun x => !x.1) && (backToKw cpos (keywordEach [] X.env)).all (fun x => x.1.isSome) && decide ((e :: es).length + ([] : List Keyword).length + (if ([] : List Keyword).isEmpty then 0 else 1) < 30)) = true := by rfl)
    (hline : (apos.endLine == cpos.line) = true := by rfl) (hs : starEach (e :: es) X.env = (false, eval e X.env) :: starEach es X.env := by rfl) (hpl : (backTo cpos (starEach es X.env)).any (·.1) = false := by rfl) :
    PE X (.Call (.Attribute o name apos) (e :: es) [] cpos) (tTM X.K r to t) := by
  refine ⟨fun pins s σ H Q I h => ?_⟩
  refine wpAny_Call_method_late hbase hfew hline rfl (thn (ho.run pins s σ H _ I h) fun v s1 ⟨x, H1, I1, r1, ty, q1⟩ => ?_)
  obtain ⟨a, vs, rfl, ts⟩ := ty
  cases r1
  obtain ⟨it, _, pl, _⟩ := I1.tuple ts.sqt
  refine ⟨"tuple", id, PySem.F.plainAttrs_tuple, slot, hty, pl.typeIs, fun b e => ?_, ?_⟩
  · cases e
    rcases ts with ⟨ob, h1, h2, h3⟩ | ⟨ob, its, n, h1, h2, h3, _⟩
    · exact ⟨ob, (I1.hok a _ h1).1, h3⟩
    · exact ⟨ob, I1.kIn a ob h1, h3⟩
  · have hA := ha.run cpos pins s1 σ H1 _ I1 q1
    rw [hs] at hA ⊢
    refine Calls.callWith_builtin (by show (false || (backTo cpos (starEach es X.env)).any (·.1)) = false; rw [hpl] <;> rfl) (Calls.evalArgs_plain ?_)
    exact thn hA fun us s2 ⟨vs2, H2, I2, r2, q2⟩ => hm pins s2 σ H2 (.ref a) vs2 (.ref a) us Q I2 rfl r2 q2
end
/-- t.index(x) of ints -/
def dIxT : List D → Option D
  | [.tup ds, .int k] => match dInts ds with
    | some ns => if ns.contains k = true then some (.int (ixOf k ns)) else none
    | none => none
  | _ => none
theorem v2_ixT {G : GG} : V2 G (fun x y H Q => rIxT G.K x [y] H Q) dIxT := by
  intro H x y d e z Q h1 h2 ef g
  unfold dIxT at ef
  split at ef
  · rename_i ds k q
    cases q
    split at ef
    · rename_i ns c
      split at ef
      · rename_i m
        cases ef
        obtain ⟨a, rfl, s⟩ := h1.tInts (ns := ns) c
        rw [h2.intOf]
        exact ⟨a, ns, k, rfl, rfl, s.sqt, List.contains_iff_mem.mp m, g.val (.int _)⟩
      · cases ef
    · cases ef
  · cases ef
section
variable {X : Cx} {G : GG} {W : WX} {o e : Expr} {oo oe : Opd} {apos cpos : Pos}
theorem se_ixT (c : CT X G W) (hp : oo.p = pTup) (ho : SO X G W o oo) (he : SO X G W e oe)
    (hbase : attributeBase o "index" X.env (eval o X.env) = eval o X.env := by rfl)
    (hfew : ((backTo cpos (starEach [e] X.env)).all (fun x => !x.1) && (backToKw cpos (keywordEach [] X.env)).all (fun x => x.1.isSome) && decide (([e] : List Expr).length + ([] : List Keyword).length + (if ([] : List Keyword).isEmpty then 0 else 1) < 30)) = true := by rfl)
    (hline : (apos.endLine == cpos.line) = true := by rfl) (hs : starEach [e] X.env = (false, eval e X.env) :: starEach [] X.env := by rfl) (hpl : (backTo cpos (starEach [] X.env)).any (·.1) = false := by rfl) :
    SE X G W (.Call (.Attribute o "index" apos) [e] [] cpos) (mOp [oo, oe] dIxT) :=
  pe_wk (pe_tm (t := tOs G W [oe]) PySem.F.slot_tuple_index PySem.F.type_tuple_index (r := rIxT G.K) (by rw [c.k]; exact mt_ixT) ho (pa_cons he pa_nil hs) hbase hfew hline hs hpl) fun σ H Q q => by
    have k : tO G W oo σ H fun x H1 => tO G W oe σ H1 fun y H2 => rIxT G.K x [y] H2 Q := mOp2_rd v2_ixT q
    refine tO_mono k fun x H1 m z => ⟨?_, z⟩
    rw [hp] at m
    rw [← c.k]
    exact met_tup m
end

/-! ### methods that change a list of a name's -/
/-- f: from the items and the arguments the new items and what is handed back -/
def kMut (i : Nat) (os : List Opd) (f : List D → List D → Option (List D × D)) : List (Option D) × Env → R (D × Env) := fun q => match q.2[i]?, rds os q.1 q.2 with
  | some (some (.lst xs)), some ds => match f xs ds with
    | some (ys, z) => .ok (z, q.2.set i (some (.lst ys)))
    | none => .stuck
  | _, _ => .stuck
def mMut (i : Nat) (os : List Opd) (f : List D → List D → Option (List D × D)) : ME := fun ρ => match ρ[i]? with
  | some (some (.lst _)) => (ev os ρ).bind (kMut i os f)
  | _ => .stuck
/-- the rule of the layer does f -/
def MutR (G : GG) (n : Nat) (r : V → List V → Hp → VK → Prop) (f : List D → List D → Option (List D × D)) : Prop := ∀ (H : Hp) (a : Addr) (vs ws : List V) (xs ds ys : List D) (z : D) (Q : VK), ds.length = n → H a = some (.lst vs) → RVs G H xs vs → RSs G H ds ws →
  f xs ds = some (ys, z) → (∀ v us, RVs G H ys us → RV G H z v → Q v (upd H a (.lst us))) → r (.ref a) ws H Q
theorem fix_upd {H : Hp} {a : Addr} {u o : HO} (hu : H a = some u) (fu : fixO u = false) : Fix H (upd H a o) := fun b x hx f => by
  have : b ≠ a := fun z => by
    subst z
    rw [hu] at hx
    cases hx
    rw [fu] at f
    cases f
  rw [upd_ne this]
  exact hx
theorem rdMut {G : GG} {W : WX} {i : Nat} {os : List Opd} {f : List D → List D → Option (List D × D)} {r : V → List V → Hp → VK → Prop} (hr : MutR G os.length r f) {σ : L2.St} {H : Hp} {Q : VK} (q : rdE G W (mMut i os f) σ H Q) :
    tO G W (.var i pLst) σ H fun x H1 => tOs G W os σ H1 fun xs H2 => r x xs H2 Q := by
  obtain ⟨ρ, re, q⟩ := q
  unfold mMut at q
  split at q
  case h_2 => exact q.elim
  rename_i xs0 e0
  obtain ⟨v, s0, rs0⟩ := re.val i _ e0
  refine ⟨v, s0, ⟨_, rfl, rs0⟩, opds_run (W := W) re ?_⟩
  cases e : ev os ρ with
  | exc c w ρ' => rw [e] at q; exact q
  | stuck => rw [e] at q; exact q
  | ok p =>
    rw [e] at q
    obtain ⟨ps, ρ1⟩ := p
    intro ws H1 re1 fr hq
    have q : postE G W ρ σ H Q (match ρ1[i]?, rds os ps ρ1 with
      | some (some (.lst xs)), some ds => match f xs ds with
        | some (ys, z) => .ok (z, ρ1.set i (some (.lst ys)))
        | none => .stuck
      | _, _ => .stuck) := q
    split at q
    case h_2 => exact q.elim
    rename_i xs ds e1 e2
    split at q
    case h_2 => exact q.elim
    rename_i ys z e3
    obtain ⟨v1, s1, rs1⟩ := re1.val i _ e1
    rw [s0] at s1
    cases s1
    obtain ⟨a, us, rfl, ha, rv⟩ := rs1
    refine hr H1 a us ws xs ds ys z Q (rds_len e2) ha rv (hq ds e2) e3 fun v2 us2 r2 r3 => ?_
    have fx : Fix H1 (upd H1 a (.lst us2)) := fix_upd ha rfl
    refine q v2 _ (re1.put e1 rfl s0 ha rfl rfl ⟨a, us2, rfl, upd_same, r2.mono fx⟩) (fr.trans (Fr.put e1 rfl s0)) (Res.of_rv (r3.mono fx))
section
variable {X : Cx} {G : GG} {W : WX} {o e : Expr} {es : List Expr} {i : Nat} {os : List Opd} {name : Str} {apos cpos : Pos} {id : String} {r : V → List V → Hp → VK → Prop} {f : List D → List D → Option (List D × D)}
theorem met_lst {x : V} {H : Hp} (m : Met G pLst x H) : tyV G.K "list" x H := by
  obtain ⟨d, e, rs⟩ := m
  cases d with
  | lst ds =>
    obtain ⟨a, vs, rfl, s, _⟩ := rs.lstOf
    exact .inl ⟨rfl, vs, SqL.of s⟩
  | _ => cases e
theorem se_mut (c : CT X G W) (slot : Slot "list" name id) (hty : typeOf (.builtin id) = pure (.type "method_descriptor")) (hm : MtR X id r) (hf : MutR G os.length r f) (ho : PE X o (tVar i)) (ha : SOs X G W (e :: es) os)
    (hbase : attributeBase o name X.env (eval o X.env) = eval o X.env := by rfl)
    (hfew : ((backTo cpos (starEach (e :: es) X.env)).all (fun x => !x.1) && (backToKw cpos (keywordEach [] X.env)).all (fun x => x.1.isSome) && decide ((e :: es).length + ([] : List Keyword).length + (if ([] : List Keyword).isEmpty then 0 else 1) < 30)) = true := by rfl)
    (hline : (apos.endLine == cpos.line) = true := by rfl) (hs : starEach (e :: es) X.env = (false, eval e X.env) :: starEach es X.env := by rfl) (hpl : (backTo cpos (starEach es X.env)).any (·.1) = false := by rfl) :
    SE X G W (.Call (.Attribute o name apos) (e :: es) [] cpos) (mMut i os f) :=
  pe_wk (pe_bm PySem.F.plainAttrs_list slot hty hm ho ha hbase hfew hline hs hpl) fun σ H Q q => by
    obtain ⟨v, s, m, z⟩ := rdMut hf q
    exact ⟨v, s, by rw [← c.k]; exact met_lst m, z⟩
theorem se_mut0 (c : CT X G W) (slot : Slot "list" name id) (hty : typeOf (.builtin id) = pure (.type "method_descriptor")) (hm : MtR X id r) (hf : MutR G 0 r f) (ho : PE X o (tVar i))
    (hbase : attributeBase o name X.env (eval o X.env) = eval o X.env := by rfl) (hline : (apos.endLine == cpos.line) = true := by rfl) :
    SE X G W (.Call (.Attribute o name apos) [] [] cpos) (mMut i [] f) :=
  pe_wk (pe_bm0 PySem.F.plainAttrs_list slot hty hm ho hbase hline) fun σ H Q q => by
    obtain ⟨v, s, m, z⟩ := rdMut (os := []) hf q
    exact ⟨v, s, by rw [← c.k]; exact met_lst m, z⟩
end
/-- append, pop, pop(i), insert, extend -/
def fAppend (xs : List D) : List D → Option (List D × D)
  | [y] => if y.own = false ∧ xs.length < sizeLine then some (xs ++ [y], .non) else none
  | _ => none
theorem mu_append {G : GG} : MutR G 1 rAppend fAppend := by
  intro H a vs ws xs ds ys z Q ln ha rv rs ef q
  unfold fAppend at ef
  split at ef
  · rename_i y
    split at ef
    · rename_i c
      cases ef
      cases rs with
      | cons h r =>
        cases r
        have hv := h.rv c.1
        exact ⟨a, vs, _, rfl, rfl, ha, by rw [← rv.length]; exact c.2, q _ _ (rv.app (.cons hv .nil)) .non⟩
    · cases ef
  · cases ef
def fPop (xs : List D) : List D → Option (List D × D)
  | [] => (xs[xs.length - 1]?).map fun y => (xs.dropLast, y)
  | _ => none
theorem mu_pop {G : GG} : MutR G 0 rPop fPop := by
  intro H a vs ws xs ds ys z Q ln ha rv rs ef q
  cases rs with
  | cons _ _ => cases ln
  | nil =>
    have ef : (xs[xs.length - 1]?).map (fun y => (xs.dropLast, y)) = some (ys, z) := ef
    rw [Option.map_eq_some_iff] at ef
    obtain ⟨y, e, e2⟩ := ef
    cases e2
    obtain ⟨v, e3, r⟩ := rv.get e
    exact ⟨a, vs, v, rfl, rfl, ha, by rw [← rv.length]; exact e3, q _ _ rv.dropLast r⟩
def fPopAt (xs : List D) : List D → Option (List D × D)
  | [.int i] => if -(2 ^ 63) ≤ i ∧ i < 2 ^ 63 then match seqIndex? i xs.length with
    | some k => (xs[k]?).map fun y => (xs.eraseIdx k, y)
    | none => none
    else none
  | _ => none
theorem mu_popAt {G : GG} : MutR G 1 rPopAt fPopAt := by
  intro H a vs ws xs ds ys z Q ln ha rv rs ef q
  unfold fPopAt at ef
  split at ef
  · rename_i i
    split at ef
    · rename_i c
      split at ef
      · rename_i k hk
        rw [Option.map_eq_some_iff] at ef
        obtain ⟨y, e, e2⟩ := ef
        cases e2
        obtain ⟨v, e3, r⟩ := rv.get e
        cases rs with
        | cons h rr =>
          cases rr
          rw [h.intOf]
          exact ⟨a, vs, i, k, v, rfl, rfl, ha, c.1, c.2, by rw [← rv.length]; exact hk, e3, q _ _ (rv.eraseIdx k) r⟩
      · cases ef
    · cases ef
  · cases ef
end TV

/-! Tv10: statements. -/
namespace TV
open PySem PySem.Spec PyProof.Rows L2

/-- a name takes a result -/
theorem RE.set {G : GG} {ρ ρ0 : Env} {σ σ0 : L2.St} {H H0 : Hp} {d : D} {v : V} (r : RE G ρ σ H) (q : Res G ρ0 σ0 H0 ρ σ H d v) (i : Nat) (hj : G.slot ≠ some i) : RE G (ρ.set i (some d)) (σ.set i (some v)) H := by
  have key : ∀ (j : Nat) (x : D), (ρ.set i (some d))[j]? = some (some x) → (j = i ∧ x = d ∧ (σ.set i (some v))[j]? = some (some v)) ∨ (j ≠ i ∧ ρ[j]? = some (some x) ∧ (σ.set i (some v))[j]? = σ[j]?) := fun j x e => by
    by_cases c : j = i
    · subst c
      have hl : j < ρ.length := by
        have := (List.getElem?_eq_some_iff.mp e).1
        rw [List.length_set] at this
        exact this
      rw [List.getElem?_set_self hl] at e
      cases e
      exact .inl ⟨rfl, rfl, List.getElem?_set_self (by rw [← r.len]; exact hl)⟩
    · rw [List.getElem?_set_ne (Ne.symm c)] at e
      exact .inr ⟨c, e, List.getElem?_set_ne (Ne.symm c)⟩
  have apart : ∀ (j : Nat) (x : D) (a : Addr), v = .ref a → d.own = true → ρ[j]? = some (some x) → x.own = true → σ[j]? = some (some (.ref a)) → False := fun j x a ev od e ox s => (q.2 a ev od).1 ⟨j, x, e, ox, s⟩
  refine ⟨by rw [List.length_set, List.length_set]; exact r.len, fun j x e => ?_, fun j k x y a e1 e2 o1 o2 s1 s2 => ?_, r.pin, fun j hk => (by rw [List.getElem?_set_ne (fun e => hj (by rw [e]; exact hk))]; exact r.spin j hk)⟩
  · rcases key j x e with ⟨_, rfl, s⟩ | ⟨_, e', s⟩
    · exact ⟨v, s, q.1⟩
    · rw [s]
      exact r.val j x e'
  · rcases key j x e1 with ⟨g1, h1, t1⟩ | ⟨g1, h1, t1⟩
    · rcases key k y e2 with ⟨g2, h2, t2⟩ | ⟨g2, h2, t2⟩
      · rw [g1, g2]
      · rw [t1] at s1
        cases s1
        rw [t2] at s2
        subst h1
        exact (apart k y a rfl o1 h2 o2 s2).elim
    · rcases key k y e2 with ⟨g2, h2, t2⟩ | ⟨g2, h2, t2⟩
      · rw [t2] at s2
        cases s2
        rw [t1] at s1
        subst h2
        exact (apart j x a rfl o2 h1 o1 s1).elim
      · rw [t1] at s1
        rw [t2] at s2
        exact r.sep j k x y a h1 h2 o1 o2 s1 s2
theorem RE.setN {G : GG} [NoSlot G] {ρ ρ0 : Env} {σ σ0 : L2.St} {H H0 : Hp} {d : D} {v : V} (r : RE G ρ σ H) (q : Res G ρ0 σ0 H0 ρ σ H d v) (i : Nat) : RE G (ρ.set i (some d)) (σ.set i (some v)) H := r.set q i (by rw [NoSlot.h]; exact fun h => nomatch h)
theorem own_set {ρ : Env} {σ : L2.St} {i : Nat} {d : D} {v : V} {b : Addr} (hl : ρ.length = σ.length) (h : own (ρ.set i (some d)) (σ.set i (some v)) b) : (v = .ref b ∧ d.own = true) ∨ own ρ σ b := by
  obtain ⟨j, x, e, o, s⟩ := h
  by_cases c : j = i
  · subst c
    have l : j < ρ.length := by
      have := (List.getElem?_eq_some_iff.mp e).1
      rw [List.length_set] at this
      exact this
    rw [List.getElem?_set_self l] at e
    cases e
    rw [List.getElem?_set_self (by rw [← hl]; exact l)] at s
    cases s
    exact .inl ⟨rfl, o⟩
  · rw [List.getElem?_set_ne (Ne.symm c)] at e s
    exact .inr ⟨j, x, e, o, s⟩
theorem Fr.set {G : GG} {ρ ρ1 : Env} {σ : L2.St} {H H1 : Hp} {d : D} {v : V} {i : Nat} (r : RE G ρ1 σ H1) (f : Fr ρ σ H ρ1 σ H1) (q : Res G ρ σ H ρ1 σ H1 d v) : Fr ρ σ H (ρ1.set i (some d)) (σ.set i (some v)) H1 := fun b o hb n => by
  obtain ⟨h1, h2⟩ := f b o hb n
  refine ⟨h1, fun z => ?_⟩
  rcases own_set r.len z with ⟨e, w⟩ | z
  · rcases (q.2 b e w).2 with z | z
    · rw [hb] at z
      cases z
    · exact n z
  · exact h2 z
theorem same_set {σ : L2.St} {i : Nat} {v : V} : SameBut [i] σ (σ.set i (some v)) := fun j h => by
  rw [List.getElem?_set_ne (fun e => h (by rw [e]; exact List.mem_cons_self))]

section
variable {X : Cx} {G : GG} {W : WX} {pos : Pos}
/-- an expression, then what follows it, into a statement -/
def mDo (m : ME) (k : D × Env → R (Out × Env)) : MS := fun ρ => (m ρ).bind k
theorem rdES {m : ME} {k : D × Env → R (Out × Env)} {A : List Nat} {E : Ends} {σ : L2.St} {H : Hp} {Q : VK} (q : rdS G W A (mDo m k) E σ H)
    (f : ∀ ρ ρ1 d v H1, RE G ρ1 σ H1 → Fr ρ σ H ρ1 σ H1 → Res G ρ σ H ρ1 σ H1 d v → postS G W A ρ σ H E (k (d, ρ1)) → Q v H1) : rdE G W m σ H Q := by
  obtain ⟨ρ, re, q⟩ := q
  refine ⟨ρ, re, ?_⟩
  have q : postS G W A ρ σ H E ((m ρ).bind k) := q
  cases e : m ρ with
  | ok p =>
    rw [e] at q
    exact fun v H1 r1 fr rs => f ρ p.2 p.1 v H1 r1 fr rs q
  | exc c w ρ' =>
    rw [e] at q
    exact fun σ' H' dd fs v r1 r2 r3 => q σ' H' dd fs v r1 r2 (fun i _ => r3 i (fun h => nomatch h))
  | stuck => rw [e] at q; exact q
def kSet (i : Nat) : D × Env → R (Out × Env) := fun p => .ok (.nx, p.2.set i (some p.1))
abbrev mSet (i : Nat) (m : ME) : MS := mDo m (kSet i)
theorem ss_set {i : Nat} {x : Str} {e : Expr} {m : ME} {pos' : Pos} (c : CT X G W) (hi : X.N[i]? = some x) (hx : Loc X.env.scope x) (he : SE X G W e m) (hs : swapsWith e (some (.Name x pos')) pos.line X.env = pure false := by rfl)
    (hf : X.fn x = true ∨ X.env.scope.names.lookup x = some .local := by first | exact .inl rfl | exact .inr rfl | assumption)
    (hj : G.slot ≠ some i := by first | exact fun h => nomatch h | (intro h; cases h)) : SS X G W (.Assign [.Name x pos'] e pos) [i] (mSet i m) :=
  ps_wk (ps_set c.nd hi hx he hs hf) fun E σ H q => rdES q fun ρ ρ1 d v H1 r1 fr rs z => z _ H1 (r1.set rs i hj) (Fr.set r1 fr rs) same_set
/-- nothing of note is handed back -/
def kDrop : D × Env → R (Out × Env) := fun p => .ok (.nx, p.2)
theorem ss_expr {e : Expr} {m : ME} (he : SE X G W e m) (hs : swapsWith e none pos.line X.env = pure false := by rfl) : SS X G W (.Expr e pos) [] (mDo m kDrop) :=
  ps_wk (ps_expr he hs) fun E σ H q => rdES q fun ρ ρ1 d v H1 r1 fr rs z => z σ H1 r1 fr SameBut.refl
def kRet : D × Env → R (Out × Env) := fun p => .ok (.rt p.1, p.2)
theorem ss_ret {e : Expr} {m : ME} (he : SE X G W e m) : SS X G W (.Return (some e) pos) [] (mDo m kRet) :=
  ps_wk (ps_ret he) fun E σ H q => rdES q fun ρ ρ1 d v H1 r1 fr rs z => z v σ H1 r1 fr SameBut.refl rs
theorem ss_retN : SS X G W (.Return none pos) [] (mDo (mC .non) kRet) := ps_wk ps_retN fun E σ H q => by
  obtain ⟨ρ, re, q⟩ := q
  exact q .non σ H re Fr.refl SameBut.refl (Res.of_rv .non)
def mNext : MS := fun ρ => .ok (.nx, ρ)
theorem ss_pass : SS X G W (.Pass pos) [] mNext := ps_wk ps_pass fun E σ H q => by
  obtain ⟨ρ, re, q⟩ := q
  exact q σ H re Fr.refl SameBut.refl
def mBrk : MS := fun ρ => .ok (.bk, ρ)
def mCnt : MS := fun ρ => .ok (.ct, ρ)
theorem ss_break : SS X G W (.Break pos) [] mBrk := ps_wk ps_break fun E σ H q => by
  obtain ⟨ρ, re, q⟩ := q
  exact q σ H re Fr.refl SameBut.refl
theorem ss_continue : SS X G W (.Continue pos) [] mCnt := ps_wk ps_continue fun E σ H q => by
  obtain ⟨ρ, re, q⟩ := q
  exact q σ H re Fr.refl SameBut.refl
/-- what is never come to -/
def mNever : MS := fun _ => .stuck
theorem ss_never {st : Stmt} : SS X G W st [] mNever := ps_wk ps_never fun E σ H q => by
  obtain ⟨ρ, re, q⟩ := q
  exact q
/-- blocks -/
def kSeq (n : MS) : Out × Env → R (Out × Env)
  | (.nx, ρ) => n ρ
  | p => .ok p
def mSeq (m n : MS) : MS := fun ρ => (m ρ).bind (kSeq n)
theorem sss_nil : SSs X G W [] [] mNext := pss_wk pss_nil fun E σ H q => by
  obtain ⟨ρ, re, q⟩ := q
  exact q σ H re Fr.refl SameBut.refl
theorem sss_one {st : Stmt} {A : List Nat} {m : MS} (h : SS X G W st A m) : SSs X G W [st] A m := pss_one h
/-- the assigned names may be told wider -/
theorem postS.wide {A B : List Nat} {ρ : Env} {σ : L2.St} {H : Hp} {E : Ends} {r : R (Out × Env)} (h : postS G W B ρ σ H E r) (s : ∀ i, i ∈ A → i ∈ B) : postS G W A ρ σ H E r := by
  have sb : ∀ {σ' : L2.St}, SameBut A σ σ' → SameBut B σ σ' := fun {σ'} t i hi => t i fun z => hi (s i z)
  cases r with
  | ok p =>
    obtain ⟨o, ρ'⟩ := p
    cases o with
    | nx => exact fun σ' H' q g t => h σ' H' q g (sb t)
    | bk => exact fun σ' H' q g t => h σ' H' q g (sb t)
    | ct => exact fun σ' H' q g t => h σ' H' q g (sb t)
    | rt d => exact fun v σ' H' q g t z => h v σ' H' q g (sb t) z
  | exc c w ρ' => exact fun σ' H' dd fs v q g t => h σ' H' dd fs v q g (sb t)
  | stuck => exact h
theorem sss_cons {st : Stmt} {rest : List Stmt} {A B : List Nat} {m n : MS} (h : SS X G W st A m) (k : SSs X G W rest B n) : SSs X G W (st :: rest) (A ++ B) (mSeq m n) :=
  pss_wk (pss_cons h k) fun E σ H q => by
    obtain ⟨ρ, re, q⟩ := q
    refine ⟨ρ, re, ?_⟩
    have q : postS G W (A ++ B) ρ σ H E ((m ρ).bind (kSeq n)) := q
    cases e : m ρ with
    | ok p =>
      rw [e] at q
      obtain ⟨o, ρ1⟩ := p
      cases o with
      | nx => exact fun σ1 H1 r1 fr sb => ⟨ρ1, r1, postS.ahead (r := n ρ1) q fr sb⟩
      | bk => exact postS.wide (r := .ok (.bk, ρ1)) q fun i z => List.mem_append_left _ z
      | ct => exact postS.wide (r := .ok (.ct, ρ1)) q fun i z => List.mem_append_left _ z
      | rt d => exact postS.wide (r := .ok (.rt d, ρ1)) q fun i z => List.mem_append_left _ z
    | exc c w ρ' => rw [e] at q; exact postS.wide (E := E) (r := .exc c w ρ') q fun i z => List.mem_append_left _ z
    | stuck => rw [e] at q; exact q
/-- if -/
def kIfS (a b : MS) : Bool → MS
  | true => a
  | false => b
abbrev mIfS (t : MT) (a b : MS) : MS := tThen t (kIfS a b)
theorem rdS.wide {A B : List Nat} {m : MS} {E : Ends} {σ : L2.St} {H : Hp} (h : rdS G W B m E σ H) (s : ∀ i, i ∈ A → i ∈ B) : rdS G W A m E σ H := by
  obtain ⟨ρ, re, q⟩ := h
  exact ⟨ρ, re, q.wide s⟩
theorem ss_if {c : Expr} {a b : List Stmt} {A B : List Nat} {t : MT} {m n : MS} (hc : ST X G W c t) (ha : SSs X G W a A m) (hb : SSs X G W b B n) : SS X G W (.If c a b pos) (A ++ B) (mIfS t m n) :=
  ps_wk (ps_if hc ha hb) fun E σ H q => (rdTS q).mono fun b H1 z => by
    cases b with
    | true => exact rdS.wide (m := m) z fun i h => List.mem_append_left _ h
    | false => exact rdS.wide (m := n) z fun i h => List.mem_append_right _ h
end
end TV

/-! Tv11: while, for. -/
namespace TV
open PySem PySem.Spec PyProof.Rows L2

/-! ### while -/
def whileN (t : MT) (b : MS) : Nat → MS
  | 0, _ => .stuck
  | n + 1, ρ => (t ρ).bind fun p => if p.1 = true then (b p.2).bind fun q => match q with
      | (.nx, ρ2) => whileN t b n ρ2
      | (.ct, ρ2) => whileN t b n ρ2
      | (.bk, ρ2) => .ok (.nx, ρ2)
      | (.rt d, ρ2) => .ok (.rt d, ρ2)
    else .ok (.nx, p.2)
def fuel : Nat := 1000000
def mWhile (t : MT) (b : MS) : MS := whileN t b fuel
theorem rdWhile {G : GG} [NoSlot G] {W : WX} {t : MT} {b : MS} {A : List Nat} {E : Ends} {σ : L2.St} {H : Hp} (q : rdS G W A (mWhile t b) E σ H) : tWhile (rdT G W t) (rdS G W A b) E σ H := by
  obtain ⟨ρ, re, q⟩ := q
  refine ⟨fun n σ' H' => ∃ ρ', RE G ρ' σ' H' ∧ Fr ρ σ H ρ' σ' H' ∧ SameBut A σ σ' ∧ postS G W A ρ σ H E (whileN t b n ρ'), ⟨fuel, ρ, re, Fr.refl, SameBut.refl, q⟩, ?_⟩
  rintro n σ1 H1 ⟨ρ1, r1, f1, s1, p1⟩
  refine ⟨ρ1, r1, ?_⟩
  cases n with
  | zero => exact p1.elim
  | succ n =>
    unfold whileN at p1
    cases e : t ρ1 with
    | exc c w ρ' => rw [e] at p1; exact fun σ' H' dd fs v a1 a2 a3 => p1 σ' H' dd fs v a1 (f1.trans a2) (fun i hi => by rw [a3.nil]; exact s1 i hi)
    | stuck => rw [e] at p1; exact p1
    | ok p =>
      rw [e] at p1
      obtain ⟨c, ρ2⟩ := p
      intro H2 r2 f2
      cases c with
      | false => exact p1 σ1 H2 r2 (f1.trans f2) s1
      | true =>
        rw [if_pos rfl]
        have p1 : postS G W A ρ σ H E ((b ρ2).bind fun q => match q with
          | (.nx, ρ2) => whileN t b n ρ2
          | (.ct, ρ2) => whileN t b n ρ2
          | (.bk, ρ2) => .ok (.nx, ρ2)
          | (.rt d, ρ2) => .ok (.rt d, ρ2)) := p1
        refine ⟨fun σ' H' => ∃ m', m' < n + 1 ∧ ∃ ρ', RE G ρ' σ' H' ∧ Fr ρ σ H ρ' σ' H' ∧ SameBut A σ σ' ∧ postS G W A ρ σ H E (whileN t b m' ρ'), fun σ' H' z => z, ρ2, r2, ?_⟩
        have tr : ∀ {σ3 : L2.St}, SameBut A σ1 σ3 → SameBut A σ σ3 := fun {σ3} z i hi => (z i hi).trans (s1 i hi)
        cases e2 : b ρ2 with
        | exc c w ρ' => rw [e2] at p1; exact fun σ' H' dd fs v a1 a2 a3 => p1 σ' H' dd fs v a1 (f1.trans (f2.trans a2)) (tr a3)
        | stuck => rw [e2] at p1; exact p1
        | ok p2 =>
          rw [e2] at p1
          obtain ⟨o, ρ3⟩ := p2
          cases o with
          | nx => exact fun σ3 H3 r3 f3 s3 => ⟨n, Nat.lt_succ_self n, ρ3, r3, f1.trans (f2.trans f3), tr s3, p1⟩
          | ct => exact fun σ3 H3 r3 f3 s3 => ⟨n, Nat.lt_succ_self n, ρ3, r3, f1.trans (f2.trans f3), tr s3, p1⟩
          | bk => exact fun σ3 H3 r3 f3 s3 => p1 σ3 H3 r3 (f1.trans (f2.trans f3)) (tr s3)
          | rt d => exact fun v σ3 H3 r3 f3 s3 z => p1 v σ3 H3 r3 (f1.trans (f2.trans f3)) (tr s3) (z.ahead (f1.trans f2))
theorem ss_while {X : Cx} {G : GG} [NoSlot G] {W : WX} {pos : Pos} {c : Expr} {body : List Stmt} {t : MT} {b : MS} {A : List Nat} (C : CT X G W) (hc : ST X G W c t) (hb : SSs X G W body A b) : SS X G W (.While c body [] pos) A (mWhile t b) :=
  ps_wk (ps_while C.po hc hb) fun E σ H q => rdWhile q

/-! ### for -/
def forL (tg : D → Env → R Env) (b : MS) : List D → MS
  | [], ρ => .ok (.nx, ρ)
  | d :: ds, ρ => (tg d ρ).bind fun ρ1 => (b ρ1).bind fun q => match q with
    | (.nx, ρ2) => forL tg b ds ρ2
    | (.ct, ρ2) => forL tg b ds ρ2
    | (.bk, ρ2) => .ok (.nx, ρ2)
    | (.rt d, ρ2) => .ok (.rt d, ρ2)
/-- what is drawn: a value, or a tuple that is at once taken apart -/
abbrev YY := Hp → D → V → Prop
def Y1 (G : GG) : YY := fun H d x => RV G H d x
def Y2 (G : GG) : YY := fun H d x => ∃ ds a vs, d = .tup ds ∧ x = .ref a ∧ SqT G.K H a vs ∧ RVs G H ds vs
/-- a walk over ds -/
structure ItIs (G : GG) (J : It) (Y : YY) (ds : List D) (S : Env → L2.St → Hp → Prop) : Prop where
  stay : ∀ ρ σ H ρ' σ' H', S ρ σ H → RE G ρ σ H → Fr ρ σ H ρ' σ' H' → S ρ' σ' H'
  off : ∀ ρ1 σ1 H1 D, S ρ1 σ1 H1 → H1 D = none → ∀ ρ σ H u o, S ρ σ H → H D = some u → fixO u = false → S ρ σ (upd H D o)
  go : ∀ ρ σ H j, S ρ σ H → j < ds.length → J.go j H
  stop : ∀ ρ σ H j, S ρ σ H → ds.length ≤ j → J.stop j H
  yld : ∀ ρ σ H j x H' d, S ρ σ H → RE G ρ σ H → J.yld j H x H' → ds[j]? = some d → Same H H' ∧ Y H' d x
/-- a target takes what is drawn -/
def GOk (G : GG) (Y : YY) (g : TG) (A : List Nat) (tg : D → Env → R Env) : Prop := ∀ (d : D) (x : V) (ρ ρ' : Env) (σ : L2.St) (H : Hp) (K : L2.St → Hp → Prop), RE G ρ σ H → Y H d x → tg d ρ = .ok ρ' →
  (∀ σ' H', RE G ρ' σ' H' → Fr ρ σ H ρ' σ' H' → SameBut A σ σ' → K σ' H') → g x σ H K
/-- a target that gives up nowhere: it takes, or it is stuck -/
def NoExc (tg : D → Env → R Env) : Prop := ∀ d ρ c w ρ', tg d ρ ≠ .exc c w ρ'
theorem for_core {G : GG} [NoSlot G] {W : WX} {J : It} {Y : YY} {ds : List D} {S : Env → L2.St → Hp → Prop} {g : TG} {A B : List Nat} {tg : D → Env → R Env} {b : MS} {E : Ends} {ρ ρ1 : Env} {σ : L2.St} {H H1 : Hp}
    (I : ItIs G J Y ds S) (hg : GOk G Y g A tg) (hn : NoExc tg) (r1 : RE G ρ1 σ H1) (f1 : Fr ρ σ H ρ1 σ H1) (s1 : S ρ1 σ H1) (q : postS G W (A ++ B) ρ σ H E (forL tg b ds ρ1)) :
    ∃ Wi : Nat → Nat → L2.St → Hp → Prop, (∃ m, Wi 0 m σ H1) ∧ ∀ i m σ H, Wi i m σ H →
      (J.stop i H ∧ E.nx σ H) ∨ (J.go i H ∧ ∃ N : L2.St → Hp → Prop, (∀ σ' H', N σ' H' → ∃ m', m' < m ∧ Wi (i + 1) m' σ' H') ∧ ∀ x H', J.yld i H x H' → g x σ H' fun σ2 H2 => rdS G W B b { E with nx := N, ct := N, bk := E.nx } σ2 H2) := by
  refine ⟨fun j m σ' H' => m = ds.length - j ∧ j ≤ ds.length ∧ ∃ ρ', RE G ρ' σ' H' ∧ Fr ρ σ H ρ' σ' H' ∧ SameBut (A ++ B) σ σ' ∧ S ρ' σ' H' ∧ postS G W (A ++ B) ρ σ H E (forL tg b (ds.drop j) ρ'),
    ⟨ds.length, rfl, Nat.zero_le _, ρ1, r1, f1, SameBut.refl, s1, q⟩, ?_⟩
  rintro j m σ2 H2 ⟨rfl, hj, ρ2, r2, f2, sb2, s2, p2⟩
  by_cases c : j < ds.length
  · have e0 : ds[j]? = some ds[j] := List.getElem?_eq_getElem c
    rw [List.drop_eq_getElem_cons c] at p2
    refine .inr ⟨I.go _ _ _ j s2 c, fun σ' H' => ∃ m', m' < ds.length - j ∧ m' = ds.length - (j + 1) ∧ j + 1 ≤ ds.length ∧ ∃ ρ', RE G ρ' σ' H' ∧ Fr ρ σ H ρ' σ' H' ∧ SameBut (A ++ B) σ σ' ∧ S ρ' σ' H' ∧ postS G W (A ++ B) ρ σ H E (forL tg b (ds.drop (j + 1)) ρ'), fun σ' H' z => z, fun x H3 y => ?_⟩
    obtain ⟨sm, y3⟩ := I.yld _ _ _ j x H3 _ s2 r2 y e0
    have r3 := r2.same sm
    have f3 : Fr ρ2 σ2 H2 ρ2 σ2 H3 := Fr.same sm
    unfold forL at p2
    cases e : tg ds[j] ρ2 with
    | exc c w ρ' => exact absurd e (hn _ _ _ _ _)
    | stuck => rw [e] at p2; exact p2.elim
    | ok ρ4 =>
      rw [e] at p2
      have p2 : postS G W (A ++ B) ρ σ H E ((b ρ4).bind fun q => match q with
        | (.nx, ρ2) => forL tg b (ds.drop (j + 1)) ρ2
        | (.ct, ρ2) => forL tg b (ds.drop (j + 1)) ρ2
        | (.bk, ρ2) => .ok (.nx, ρ2)
        | (.rt d, ρ2) => .ok (.rt d, ρ2)) := p2
      refine hg _ x ρ2 ρ4 σ2 H3 _ r3 y3 e fun σ4 H4 r4 f4 sb4 => ⟨ρ4, r4, ?_⟩
      have fa : Fr ρ σ H ρ4 σ4 H4 := f2.trans (f3.trans f4)
      have sa : SameBut (A ++ B) σ σ4 := fun i hi => (sb4 i fun z => hi (List.mem_append_left _ z)).trans (sb2 i hi)
      have s4 : S ρ4 σ4 H4 := I.stay _ _ _ _ _ _ (I.stay _ _ _ _ _ _ s2 r2 f3) r3 f4
      have tr : ∀ {σ5 : L2.St}, SameBut B σ4 σ5 → SameBut (A ++ B) σ σ5 := fun {σ5} z i hi => (z i fun y => hi (List.mem_append_right _ y)).trans (sa i hi)
      cases e2 : b ρ4 with
      | exc c w ρ' => rw [e2] at p2; exact fun σ' H' dd fs v a1 a2 a3 => p2 σ' H' dd fs v a1 (fa.trans a2) (tr a3)
      | stuck => rw [e2] at p2; exact p2
      | ok p5 =>
        rw [e2] at p2
        obtain ⟨o, ρ5⟩ := p5
        have again : ∀ σ5 H5, RE G ρ5 σ5 H5 → Fr ρ4 σ4 H4 ρ5 σ5 H5 → SameBut B σ4 σ5 → postS G W (A ++ B) ρ σ H E (forL tg b (ds.drop (j + 1)) ρ5) → ∃ m', m' < ds.length - j ∧ m' = ds.length - (j + 1) ∧ j + 1 ≤ ds.length ∧ ∃ ρ', RE G ρ' σ5 H5 ∧ Fr ρ σ H ρ' σ5 H5 ∧ SameBut (A ++ B) σ σ5 ∧ S ρ' σ5 H5 ∧ postS G W (A ++ B) ρ σ H E (forL tg b (ds.drop (j + 1)) ρ') :=
          fun σ5 H5 r5 f5 s5 p5 => ⟨_, by omega, rfl, c, ρ5, r5, fa.trans f5, tr s5, I.stay _ _ _ _ _ _ s4 r4 f5, p5⟩
        cases o with
        | nx => exact fun σ5 H5 r5 f5 s5 => again σ5 H5 r5 f5 s5 p2
        | ct => exact fun σ5 H5 r5 f5 s5 => again σ5 H5 r5 f5 s5 p2
        | bk => exact fun σ5 H5 r5 f5 s5 => p2 σ5 H5 r5 (fa.trans f5) (tr s5)
        | rt d => exact fun v σ5 H5 r5 f5 s5 z => p2 v σ5 H5 r5 (fa.trans f5) (tr s5) (z.ahead fa)
  · have ej : j = ds.length := by omega
    subst ej
    rw [List.drop_length] at p2
    exact .inl ⟨I.stop _ _ _ _ s2 (Nat.le_refl _), p2 σ2 H2 r2 f2 sb2⟩

/-! ### targets -/
def gN (i : Nat) : D → Env → R Env := fun d ρ => .ok (ρ.set i (some d))
theorem gok_name {G : GG} [NoSlot G] {i : Nat} : GOk G (Y1 G) (gName i) [i] (gN i) := by
  intro d x ρ ρ' σ H K r y e k
  cases e
  have rs : Res G ρ σ H ρ σ H d x := Res.of_rv y
  exact k _ H (r.setN rs i) (Fr.set r Fr.refl rs) same_set
theorem nex_name {i : Nat} : NoExc (gN i) := fun d ρ c w ρ' z => by cases z
/-- several names -/
def gNs : List Nat → List D → Env → R Env
  | [], [], ρ => .ok ρ
  | i :: is, d :: ds, ρ => gNs is ds (ρ.set i (some d))
  | _, _, _ => .stuck
def gTs : List Nat → TGs
  | [] => gNil
  | i :: is => gCons (gName i) (gTs is)
theorem gns_len : ∀ {is : List Nat} {ds : List D} {ρ ρ' : Env}, gNs is ds ρ = .ok ρ' → ds.length = is.length
  | [], [], _, _, _ => rfl
  | [], _ :: _, _, _, e => by cases e
  | _ :: _, [], _, _, e => by cases e
  | i :: is, d :: ds, ρ, ρ', e => congrArg Nat.succ (gns_len (is := is) (ds := ds) e)
theorem gok_names {G : GG} [NoSlot G] : ∀ {is : List Nat} {ds : List D} {vs : List V} {ρ ρ' : Env} {σ : L2.St} {H : Hp} {K : L2.St → Hp → Prop}, RE G ρ σ H → RVs G H ds vs → gNs is ds ρ = .ok ρ' →
    (∀ σ' H', RE G ρ' σ' H' → Fr ρ σ H ρ' σ' H' → SameBut is σ σ' → K σ' H') → gTs is vs σ H K
  | [], [], _, _, _, _, _, _, r, .nil, e, k => by
    cases e
    exact ⟨rfl, k _ _ r Fr.refl SameBut.refl⟩
  | [], _ :: _, _, _, _, _, _, _, _, _, e, _ => by cases e
  | _ :: _, [], _, _, _, _, _, _, _, _, e, _ => by cases e
  | i :: is, d :: ds, _, ρ, ρ', σ, H, K, r, .cons (v := v) (vs := vs) h t, e, k => by
    have rs : Res G ρ σ H ρ σ H d v := Res.of_rv h
    have r1 := r.setN rs i
    have f1 := Fr.set (i := i) r Fr.refl rs
    refine ⟨v, vs, rfl, ?_⟩
    show gTs is vs (σ.set i (some v)) H K
    refine gok_names r1 t e fun σ' H' r' f' s' => k σ' H' r' (f1.trans f') ?_
    exact fun j hj => (s' j fun z => hj (List.mem_cons_of_mem _ z)).trans (same_set j fun z => hj (by rw [List.mem_singleton.mp z]; exact List.mem_cons_self))
def gT (is : List Nat) : D → Env → R Env := fun d ρ => match d with
  | .tup ds => gNs is ds ρ
  | _ => .stuck
theorem gok_tup {G : GG} [NoSlot G] {is : List Nat} : GOk G (Y2 G) (gTup G.K is.length (gTs is)) is (gT is) := by
  intro d x ρ ρ' σ H K r y e k
  obtain ⟨ds, a, vs, rfl, rfl, sq, rv⟩ := y
  have e : gNs is ds ρ = .ok ρ' := e
  exact ⟨a, vs, rfl, sq, by rw [← rv.length]; exact gns_len e, gok_names r rv e k⟩
theorem nex_names : ∀ {is : List Nat} {ds : List D} {ρ ρ' : Env} {c : Nat} {w : D}, gNs is ds ρ ≠ .exc c w ρ'
  | [], [], _, _, _, _ => fun z => by cases z
  | [], _ :: _, _, _, _, _ => fun z => by cases z
  | _ :: _, [], _, _, _, _ => fun z => by cases z
  | i :: is, d :: ds, ρ, ρ', c, w => nex_names (is := is) (ds := ds)
theorem nex_tup {is : List Nat} : NoExc (gT is) := fun d ρ c w ρ' z => by
  cases d <;> first | cases z | exact nex_names z
end TV

/-! Tv12: what is walked. -/
namespace TV
open PySem PySem.Spec PyProof.Rows L2

abbrev MI := Env → R (List D × Env)
def postI (G : GG) (W : WX) (Y : YY) (ρ : Env) (σ : L2.St) (H : Hp) (Q : It → Hp → Prop) : R (List D × Env) → Prop
  | .ok (ds, ρ1) => ∀ J H1 S, RE G ρ1 σ H1 → Fr ρ σ H ρ1 σ H1 → ItIs G J Y ds S → S ρ1 σ H1 → Q J H1
  | .exc c w ρ' => wexc G W [] ρ σ H c w ρ'
  | .stuck => False
def rdI (G : GG) (W : WX) (Y : YY) (m : MI) : TI := fun σ H Q => ∃ ρ, RE G ρ σ H ∧ postI G W Y ρ σ H Q (m ρ)
theorem pi_wk {X : Cx} {tg e : Expr} {t t' : TI} (h : PI X tg e t) (f : ∀ σ H Q, t' σ H Q → t σ H Q) : PI X tg e t' := ⟨fun pins s σ H Q I q => h.run pins s σ H Q I (f σ H Q q)⟩
abbrev SI (X : Cx) (G : GG) (W : WX) (tg e : Expr) (Y : YY) (m : MI) : Prop := PI X tg e (rdI G W Y m)

/-! ### for -/
def kFor (tg : D → Env → R Env) (b : MS) : List D × Env → R (Out × Env) := fun p => forL tg b p.1 p.2
def mFor (m : MI) (tg : D → Env → R Env) (b : MS) : MS := fun ρ => (m ρ).bind (kFor tg b)
theorem ss_for {X : Cx} {G : GG} [NoSlot G] {W : WX} {pos : Pos} {tg iter : Expr} {body : List Stmt} {Y : YY} {m : MI} {g : TG} {A B : List Nat} {gt : D → Env → R Env} {b : MS} (C : CT X G W) (hi : SI X G W tg iter Y m) (hg : PG X tg g) (ok : GOk G Y g A gt) (hn : NoExc gt) (hb : SSs X G W body B b)
    (hs : ∀ x, foldedSetIterable iter X.env x = pure x := by intro _; rfl) : SS X G W (.For tg iter body [] pos) (A ++ B) (mFor m gt b) :=
  ps_wk (ps_for C.po (C.calm (NoSlot.c (G := G))) hi hg hb hs) fun E σ H q => by
    obtain ⟨ρ, re, q⟩ := q
    refine ⟨ρ, re, ?_⟩
    have q : postS G W (A ++ B) ρ σ H E ((m ρ).bind (kFor gt b)) := q
    cases e : m ρ with
    | ok p =>
      rw [e] at q
      obtain ⟨ds, ρ1⟩ := p
      intro J H1 S r1 f1 I s1
      exact for_core I ok hn r1 f1 s1 q
    | exc c w ρ' => rw [e] at q; exact postS.wide (A := []) (E := E) (r := .exc c w ρ') q fun _ z => nomatch z
    | stuck => rw [e] at q; exact q

/-! ### lists, tuples -/
def iSeq (K : PySem.W.Frag) (tl : TE) : TI := fun σ H R => tl σ H fun x H1 => ∃ a, x = .ref a ∧ (((∃ xs, SqL K H1 a xs) ∧ R (Itl K a) H1) ∨ ((∃ xs, SqT K H1 a xs) ∧ R (Itt K a) H1))
theorem pi_seq {X : Cx} {tg l : Expr} {tl : TE} (hl : PE X l tl) : PI X tg l (iSeq X.K tl) := by
  refine ⟨fun pins s σ H R I h => ?_⟩
  refine thn (hl.run pins s σ H _ I h) fun v s1 ⟨x, H1, I1, r1, a, e, q1⟩ => ?_
  subst e
  cases r1
  rcases q1 with ⟨⟨xs, hq⟩, q⟩ | ⟨⟨xs, hq⟩, q⟩
  · obtain ⟨its, rv, p, hz⟩ := I1.list hq
    refine wpAny_pyIter_list p.isList ?_
    refine ⟨s1.heap.objs.size, [s1.heap.objs.size], _, _, H1, rfl, I1.kept (t' := s1.toks) fun b o e => Heap.get?_push_of_some _ e, turn_list a _, ⟨_, Heap.get?_push_size _ rfl, rfl, rfl⟩, fun b hb => ?_, q⟩
    cases List.mem_singleton.mp hb
    exact I1.fpOk (Nat.le_refl _) (I1.hok.fresh (Nat.le_refl _))
  · obtain ⟨its, rv, p, hz⟩ := I1.tuple hq
    refine wpAny_pyIter_tuple (show s1.heap.IsTuple a its.toArray from p) ?_
    refine ⟨s1.heap.objs.size, [s1.heap.objs.size], _, _, H1, rfl, I1.kept (t' := s1.toks) fun b o e => Heap.get?_push_of_some _ e, turn_tuple a _, ⟨_, Heap.get?_push_size _ rfl, rfl, rfl⟩, fun b hb => ?_, q⟩
    cases List.mem_singleton.mp hb
    exact I1.fpOk (Nat.le_refl _) (I1.hok.fresh (Nat.le_refl _))
/-- the items of a value that is walked -/
def D.seq : D → Option (List D)
  | .tup ds => some ds
  | .frl ds => some ds
  | .lst ds => some ds
  | _ => none
def kSeqI (f : D → Option (List D)) : D × Env → R (List D × Env) := fun p => match f p.1 with
  | some ds => .ok (ds, p.2)
  | none => .stuck
def mI1 (m : ME) (f : D → Option (List D)) : MI := fun ρ => (m ρ).bind (kSeqI f)
/-- a walked list stays -/
def Sls (G : GG) (a : Addr) (vs : List V) (ds : List D) : Env → L2.St → Hp → Prop := fun ρ σ H => RVs G H ds vs ∧ (FrL G.K H a vs ∨ (H a = some (.lst vs) ∧ ¬ own ρ σ a))
def Slt (G : GG) (a : Addr) (vs : List V) (ds : List D) : Env → L2.St → Hp → Prop := fun _ _ H => RVs G H ds vs ∧ TupS G.K H a vs
theorem Sls.sql {G : GG} [NoSlot G] {a : Addr} {vs : List V} {ds : List D} {ρ : Env} {σ : L2.St} {H : Hp} (s : Sls G a vs ds ρ σ H) : SqL G.K H a vs := by
  rcases s.2 with h | ⟨h, _⟩
  · exact h.sql
  · exact SqL.of h
theorem Sls.stay {G : GG} [NoSlot G] {a : Addr} {vs : List V} {ds : List D} {ρ ρ' : Env} {σ σ' : L2.St} {H H' : Hp} (s : Sls G a vs ds ρ σ H) (re : RE G ρ σ H) (f : Fr ρ σ H ρ' σ' H') : Sls G a vs ds ρ' σ' H' := by
  refine ⟨s.1.mono (f.fix re), ?_⟩
  rcases s.2 with h | ⟨h, n⟩
  · exact .inl ((f.fix re).frl h)
  · exact .inr (f a _ h n)
theorem Slt.stay {G : GG} [NoSlot G] {a : Addr} {vs : List V} {ds : List D} {ρ ρ' : Env} {σ σ' : L2.St} {H H' : Hp} (s : Slt G a vs ds ρ σ H) (re : RE G ρ σ H) (f : Fr ρ σ H ρ' σ' H') : Slt G a vs ds ρ' σ' H' :=
  ⟨s.1.mono (f.fix re), (f.fix re).tupS s.2⟩
theorem Sls.off {G : GG} [NoSlot G] {a b : Addr} {vs : List V} {ds : List D} {ρ ρ1 : Env} {σ σ1 : L2.St} {H H1 : Hp} {u o : HO} (s1 : Sls G a vs ds ρ1 σ1 H1) (hD : H1 b = none) (s : Sls G a vs ds ρ σ H) (hu : H b = some u) (fu : fixO u = false) : Sls G a vs ds ρ σ (upd H b o) := by
  have fx := fix_upd (o := o) hu fu
  refine ⟨s.1.mono fx, ?_⟩
  rcases s.2 with h | ⟨h, n⟩
  · exact .inl (fx.frl h)
  · rcases s1.2 with (⟨_, h1⟩ | h1) | ⟨h1, _⟩
    · refine .inr ⟨?_, n⟩
      rw [upd_ne (fun z => by subst z; rw [hD] at h1; cases h1)]
      exact h
    · exact .inl (.inr h1)
    · refine .inr ⟨?_, n⟩
      rw [upd_ne (fun z => by subst z; rw [hD] at h1; cases h1)]
      exact h
theorem Slt.off {G : GG} [NoSlot G] {a b : Addr} {vs : List V} {ds : List D} {ρ : Env} {σ : L2.St} {H : Hp} {u o : HO} (s : Slt G a vs ds ρ σ H) (hu : H b = some u) (fu : fixO u = false) : Slt G a vs ds ρ σ (upd H b o) :=
  have fx := fix_upd (o := o) hu fu
  ⟨s.1.mono fx, fx.tupS s.2⟩
theorem itis_l {G : GG} [NoSlot G] {a : Addr} {vs : List V} {ds : List D} : ItIs G (Itl G.K a) (Y1 G) ds (Sls G a vs ds) where
  stay := fun _ _ _ _ _ _ s re f => s.stay re f
  off := fun _ _ _ _ s1 h _ _ _ _ _ s hu fu => s1.off h s hu fu
  go := fun ρ σ H j s h => by
    obtain ⟨v, e, _⟩ := s.1.get (List.getElem?_eq_getElem h)
    exact ⟨vs, v, s.sql, e⟩
  stop := fun ρ σ H j s h => ⟨vs, s.sql, by rw [← s.1.length]; exact h⟩
  yld := fun ρ σ H j x H' d s re y e => by
    obtain ⟨rfl, y⟩ := y
    obtain ⟨v, e1, r⟩ := s.1.get e
    have := y vs s.sql
    rw [e1] at this
    cases this
    exact ⟨Same.refl _, r⟩
theorem itis_t {G : GG} [NoSlot G] {a : Addr} {vs : List V} {ds : List D} : ItIs G (Itt G.K a) (Y1 G) ds (Slt G a vs ds) where
  stay := fun _ _ _ _ _ _ s re f => s.stay re f
  off := fun _ _ _ _ _ _ _ _ _ _ _ s hu fu => s.off hu fu
  go := fun ρ σ H j s h => by
    obtain ⟨v, e, _⟩ := s.1.get (List.getElem?_eq_getElem h)
    exact ⟨vs, v, s.2.sqt, e⟩
  stop := fun ρ σ H j s h => ⟨vs, s.2.sqt, by rw [← s.1.length]; exact h⟩
  yld := fun ρ σ H j x H' d s re y e => by
    obtain ⟨rfl, y⟩ := y
    obtain ⟨v, e1, r⟩ := s.1.get e
    have := y vs s.2.sqt
    rw [e1] at this
    cases this
    exact ⟨Same.refl _, r⟩
/-- the same where what is drawn is a tuple that is taken apart -/
theorem ItIs.apart {G : GG} [NoSlot G] {J : It} {ds : List D} {S : Env → L2.St → Hp → Prop} (h : ItIs G J (Y1 G) ds S) (t : ∀ d ∈ ds, ∃ es, d = .tup es) : ItIs G J (Y2 G) ds S where
  stay := h.stay
  off := h.off
  go := h.go
  stop := h.stop
  yld := fun ρ σ H j x H' d s re y e => by
    obtain ⟨sm, r⟩ := h.yld ρ σ H j x H' d s re y e
    obtain ⟨es, rfl⟩ := t d (List.mem_of_getElem? e)
    have r : RV G H' (.tup es) x := r
    obtain ⟨a, vs, rfl, ts, rv⟩ := (RV.rs r).tupOf
    exact ⟨sm, es, a, vs, rfl, rfl, ts.sqt, rv⟩
theorem rdSeqI {G : GG} [NoSlot G] {W : WX} {Y : YY} {m : ME} {f : D → Option (List D)} {σ : L2.St} {H : Hp} {R : It → Hp → Prop} (hf : ∀ d ds, f d = some ds → d.seq = some ds)
    (hl : ∀ ds d a vs, f d = some ds → ItIs G (Itl G.K a) (Y1 G) ds (Sls G a vs ds) → ItIs G (Itl G.K a) Y ds (Sls G a vs ds))
    (ht : ∀ ds d a vs, f d = some ds → ItIs G (Itt G.K a) (Y1 G) ds (Slt G a vs ds) → ItIs G (Itt G.K a) Y ds (Slt G a vs ds))
    (q : rdI G W Y (mI1 m f) σ H R) : iSeq G.K (rdE G W m) σ H R := by
  obtain ⟨ρ, re, q⟩ := q
  refine ⟨ρ, re, ?_⟩
  have q : postI G W Y ρ σ H R ((m ρ).bind (kSeqI f)) := q
  cases e : m ρ with
  | exc c w ρ' => rw [e] at q; exact q
  | stuck => rw [e] at q; exact q
  | ok p =>
    rw [e] at q
    obtain ⟨d, ρ1⟩ := p
    intro v H1 r1 f1 s
    have q : postI G W Y ρ σ H R (match f d with | some ds => .ok (ds, ρ1) | none => .stuck) := q
    cases e2 : f d with
    | none => rw [e2] at q; exact q.elim
    | some ds =>
      rw [e2] at q
      have q3 : ∀ J H1 S, RE G ρ1 σ H1 → Fr ρ σ H ρ1 σ H1 → ItIs G J Y ds S → S ρ1 σ H1 → R J H1 := q
      have e3 := hf _ _ e2
      cases d with
      | tup es =>
        cases e3
        obtain ⟨a, vs, rfl, ts, rv⟩ := s.1.tupOf
        exact ⟨a, rfl, .inr ⟨⟨vs, ts.sqt⟩, q3 _ H1 (Slt G a vs _) r1 f1 (ht _ _ a vs e2 itis_t) ⟨rv, ts⟩⟩⟩
      | frl es =>
        cases e3
        cases s.1.rv rfl with
        | frl h rv => exact ⟨_, rfl, .inl ⟨⟨_, h.sql⟩, q3 _ H1 (Sls G _ _ _) r1 f1 (hl _ _ _ _ e2 itis_l) ⟨rv, .inl h⟩⟩⟩
      | lst es =>
        cases e3
        obtain ⟨a, vs, rfl, h, rv⟩ := s.1
        exact ⟨a, rfl, .inl ⟨⟨vs, SqL.of h⟩, q3 _ H1 (Sls G a vs _) r1 f1 (hl _ _ a vs e2 itis_l) ⟨rv, .inr ⟨h, (s.2 a rfl rfl).1⟩⟩⟩⟩
      | _ => cases e3
section
variable {X : Cx} {G : GG} [NoSlot G] {W : WX} {tg e : Expr} {m : ME}
/-- for x in t -/
theorem si_seq (c : CT X G W) (h : SE X G W e m) : SI X G W tg e (Y1 G) (mI1 m D.seq) := pi_wk (pi_seq h) fun σ H R q => by
  rw [← c.k]
  exact rdSeqI (fun _ _ e => e) (fun _ _ _ _ _ i => i) (fun _ _ _ _ _ i => i) q
def isTup : D → Bool
  | .tup _ => true
  | _ => false
def D.seqT (d : D) : Option (List D) := match d.seq with
  | some ds => if ds.all isTup = true then some ds else none
  | none => none
theorem seqT_ok {d : D} {ds : List D} (h : d.seqT = some ds) : d.seq = some ds ∧ ∀ x ∈ ds, ∃ es, x = .tup es := by
  unfold D.seqT at h
  split at h
  · rename_i es e
    split at h
    · rename_i k
      cases h
      refine ⟨e, fun x hx => ?_⟩
      have := List.all_eq_true.mp k x hx
      cases x <;> first | exact ⟨_, rfl⟩ | cases this
    · cases h
  · cases h
/-- for a, b in t -/
theorem si_seqT (c : CT X G W) (h : SE X G W e m) : SI X G W tg e (Y2 G) (mI1 m D.seqT) := pi_wk (pi_seq h) fun σ H R q => by
  rw [← c.k]
  exact rdSeqI (fun _ _ e => (seqT_ok e).1) (fun _ _ _ _ e i => i.apart (seqT_ok e).2) (fun _ _ _ _ e i => i.apart (seqT_ok e).2) q
end

theorem tOs_mono {G : GG} [NoSlot G] {W : WX} : ∀ {os : List Opd} {σ : L2.St} {H : Hp} {K K' : List V → Hp → Prop}, tOs G W os σ H K → (∀ xs H1, K xs H1 → K' xs H1) → tOs G W os σ H K'
  | [], _, _, _, _, h, f => f _ _ h
  | _ :: os, _, _, _, _, h, f => tO_mono h fun _ _ _ q => tOs_mono (os := os) q fun _ _ z => f _ _ z
/-! ### range -/
def kOI (os : List Opd) (f : List D → Option (List D)) : List (Option D) × Env → R (List D × Env) := fun p => match (rds os p.1 p.2).bind f with
  | some ds => .ok (ds, p.2)
  | none => .stuck
def mIO (os : List Opd) (f : List D → Option (List D)) : MI := fun ρ => (ev os ρ).bind (kOI os f)
theorem rdIO {G : GG} [NoSlot G] {W : WX} {Y : YY} {os : List Opd} {f : List D → Option (List D)} {σ : L2.St} {H : Hp} {R : It → Hp → Prop} (q : rdI G W Y (mIO os f) σ H R) :
    tOs G W os σ H fun vs H1 => ∃ ρ1 ds xs, RE G ρ1 σ H1 ∧ RSs G H1 xs vs ∧ f xs = some ds ∧ ∀ J S, ItIs G J Y ds S → S ρ1 σ H1 → R J H1 := by
  obtain ⟨ρ, re, q⟩ := q
  refine opds_run re ?_
  have q : postI G W Y ρ σ H R ((ev os ρ).bind (kOI os f)) := q
  cases e : ev os ρ with
  | ok p =>
    rw [e] at q
    obtain ⟨xs, ρ1⟩ := p
    intro vs H1 r1 f1 hq
    have q : postI G W Y ρ σ H R (match (rds os xs ρ1).bind f with | some ds => .ok (ds, ρ1) | none => .stuck) := q
    cases e2 : rds os xs ρ1 with
    | none => rw [e2] at q; exact q.elim
    | some ys =>
      rw [e2] at q
      have q : postI G W Y ρ σ H R (match f ys with | some ds => .ok (ds, ρ1) | none => .stuck) := q
      cases e3 : f ys with
      | none => rw [e3] at q; exact q.elim
      | some ds => rw [e3] at q; exact ⟨ρ1, ds, ys, r1, hq ys e2, e3, fun J S i s => q J H1 S r1 f1 i s⟩
  | exc c w ρ' => rw [e] at q; exact q
  | stuck => rw [e] at q; exact q
def dRng (lo : Int) (n : Nat) : List D := (List.range n).map fun i : Nat => .int (lo + i)
theorem itis_r {G : GG} [NoSlot G] {lo : Int} {n : Nat} : ItIs G (Itr lo n) (Y1 G) (dRng lo n) (fun _ _ _ => True) where
  stay := fun _ _ _ _ _ _ _ _ _ => trivial
  off := fun _ _ _ _ _ _ _ _ _ _ _ _ _ _ => trivial
  go := fun ρ σ H j s h => by
    unfold dRng at h
    rwa [List.length_map, List.length_range] at h
  stop := fun ρ σ H j s h => by
    unfold dRng at h
    rwa [List.length_map, List.length_range] at h
  yld := fun ρ σ H j x H' d s re y e => by
    obtain ⟨rfl, rfl⟩ := y
    unfold dRng at e
    rw [List.getElem?_map, Option.map_eq_some_iff] at e
    obtain ⟨i, e, rfl⟩ := e
    have hi : i = j := by
      by_cases h : j < n
      · rw [List.getElem?_range h] at e
        exact (Option.some.inj e).symm
      · rw [List.getElem?_eq_none (by rw [List.length_range]; omega)] at e
        cases e
    subst hi
    exact ⟨Same.refl _, .int _⟩
def dR1 : List D → Option (List D)
  | [.int j] => if -(2 ^ 62) ≤ j ∧ j < 2 ^ 62 then some (dRng 0 j.toNat) else none
  | _ => none
def dR2 : List D → Option (List D)
  | [.int i, .int j] => if -(2 ^ 62) ≤ i ∧ i < 2 ^ 62 ∧ -(2 ^ 62) ≤ j ∧ j < 2 ^ 62 then some (dRng i (j - i).toNat) else none
  | _ => none
section
variable {X : Cx} {G : GG} [NoSlot G] {W : WX} {tg a b : Expr} {oa ob : Opd} {p pos : Pos}
theorem si_range1 (hg : Gl X "range") (hm : X.mg "range" = none) (ha : SO X G W a oa) (hs : starEach [a] X.env = [(false, eval a X.env)] := by rfl) : SI X G W tg (.Call (.Name "range" p) [a] [] pos) (Y1 G) (mIO [oa] dR1) :=
  pi_wk (pi_range1 hg hm (so_cons ha so_nil hs) hs) fun σ H R q => tOs_mono (rdIO q) fun vs H1 ⟨ρ1, ds, xs, r1, rs, e, k⟩ => by
    unfold dR1 at e
    split at e
    · rename_i j
      split at e
      · rename_i c
        cases e
        cases rs with
        | cons h r =>
          cases r
          rw [h.intOf]
          exact ⟨j, rfl, c.1, c.2, k _ _ itis_r trivial⟩
      · cases e
    · cases e
theorem si_range2 (hg : Gl X "range") (hm : X.mg "range" = none) (ha : SO X G W a oa) (hb : SO X G W b ob) (hs : starEach [a, b] X.env = [(false, eval a X.env), (false, eval b X.env)] := by rfl) (hs2 : starEach [b] X.env = [(false, eval b X.env)] := by rfl) :
    SI X G W tg (.Call (.Name "range" p) [a, b] [] pos) (Y1 G) (mIO [oa, ob] dR2) :=
  pi_wk (pi_range2 hg hm (so_cons ha (so_cons hb so_nil hs2) (by rw [hs, hs2])) hs hs2) fun σ H R q => tOs_mono (rdIO q) fun vs H1 ⟨ρ1, ds, xs, r1, rs, e, k⟩ => by
    unfold dR2 at e
    split at e
    · rename_i i j
      split at e
      · rename_i c
        cases e
        cases rs with
        | cons h r =>
          cases r with
          | cons h2 r =>
            cases r
            rw [h.intOf, h2.intOf]
            exact ⟨i, j, rfl, c, k _ _ itis_r trivial⟩
      · cases e
    · cases e
end
end TV

/-! Tv13: list comprehensions. -/
namespace TV
open PySem PySem.Spec PyProof.Rows L2

/-- around a comprehension nothing is let out -/
abbrev WF : WX := fun _ _ _ _ => False
theorem takesF {X : Cx} : Takes X WF := fun _ _ x => by
  obtain ⟨_, _, _, _, _, _, _, _, _, _, _, _, _, _, _, _, z⟩ := x
  exact z.elim
theorem CT.blk {X : Cx} {G : GG} [NoSlot G] {W : WX} (C : CT X G W) {s : Shared} {H : Hp} {scope : Scope} {cenv : PySem.Env} {fp : List Addr} : CT (X.blk s H scope cenv fp) G WF :=
  ⟨C.k, C.calm, takesF, PassesOwn.never, C.nd, C.un⟩
abbrev STs (X : Cx) (G : GG) (W : WX) (ifs : List Expr) (t : MT) : Prop := PTs X ifs (rdT G W t)
theorem pts_wk {X : Cx} {e : List Expr} {t t' : TT} (h : PTs X e t) (f : ∀ σ H Q, t' σ H Q → t σ H Q) : PTs X e t' := ⟨fun pins s σ H Q I q => h.run pins s σ H Q I (f σ H Q q)⟩
theorem sts_nil {X : Cx} {G : GG} [NoSlot G] {W : WX} : STs X G W [] mYes := pts_wk pts_nil fun σ H Q q => by
  obtain ⟨ρ, re, q⟩ := q
  exact q H re Fr.refl
theorem sts_one {X : Cx} {G : GG} [NoSlot G] {W : WX} {c : Expr} {t : MT} (h : ST X G W c t) : STs X G W [c] t := pts_one h
def wipeE (ρ : Env) : List Nat → Env
  | [] => ρ
  | v :: vs => (wipeE ρ vs).set v none
theorem wipeE_len (ρ : Env) : ∀ vs : List Nat, (wipeE ρ vs).length = ρ.length
  | [] => rfl
  | v :: vs => by unfold wipeE; rw [List.length_set, wipeE_len ρ vs]
theorem wipeE_some {ρ : Env} {i : Nat} {d : D} : ∀ {vs : List Nat}, (wipeE ρ vs)[i]? = some (some d) → ρ[i]? = some (some d) ∧ i ∉ vs
  | [], h => ⟨h, by simp⟩
  | v :: vs, h => by
    unfold wipeE at h
    by_cases hi : v = i
    · subst hi
      rw [List.getElem?_set] at h
      split at h
      · split at h <;> cases h
      · rename_i n
        exact absurd rfl n
    · rw [List.getElem?_set_ne hi] at h
      obtain ⟨h1, h2⟩ := wipeE_some h
      exact ⟨h1, by simp only [List.mem_cons, not_or]; exact ⟨fun e => hi e.symm, h2⟩⟩
theorem wipe_keep {σ : L2.St} {i : Nat} : ∀ {vs : List Nat}, i ∉ vs → (L2.wipe σ vs)[i]? = σ[i]?
  | [], _ => rfl
  | v :: vs, h => by
    unfold L2.wipe
    rw [List.getElem?_set_ne (fun e => h (by rw [e]; exact List.mem_cons_self)), wipe_keep fun z => h (List.mem_cons_of_mem _ z)]
theorem wipe_at {σ : L2.St} {i : Nat} : ∀ {vs : List Nat}, i ∈ vs → i < σ.length → (L2.wipe σ vs)[i]? = some none
  | v :: vs, h, l => by
    unfold L2.wipe
    rw [List.getElem?_set]
    by_cases e : v = i
    · rw [if_pos e, if_pos (by rw [L2.wipe_length, e]; exact l)]
    · rw [if_neg e]
      rcases List.mem_cons.mp h with z | z
      · exact absurd z.symm e
      · exact wipe_at z l
theorem wipe_eq {σ σ2 : L2.St} {A vs : List Nat} (s : SameBut A (L2.wipe σ vs) σ2) (h : ∀ i ∈ A, i ∈ vs) (l : σ2.length = σ.length) : L2.wipe σ2 vs = L2.wipe σ vs := by
  refine List.ext_getElem? fun i => ?_
  by_cases c : i ∈ vs
  · by_cases d : i < σ.length
    · rw [wipe_at c d, wipe_at c (by rw [l]; exact d)]
    · rw [List.getElem?_eq_none (by rw [L2.wipe_length]; omega), List.getElem?_eq_none (by rw [L2.wipe_length]; omega)]
  · rw [wipe_keep c, s i fun z => c (h i z)]
theorem RE.wipe {G : GG} [NoSlot G] {ρ : Env} {σ σ2 : L2.St} {H : Hp} {vs : List Nat} (r : RE G ρ σ2 H) (e : L2.wipe σ2 vs = L2.wipe σ vs) : RE G (wipeE ρ vs) σ H := by
  have l : σ2.length = σ.length := by rw [← L2.wipe_length σ2 vs, e, L2.wipe_length]
  have to : ∀ {i : Nat} {v : V}, i ∉ vs → (σ2[i]? = some (some v) ↔ σ[i]? = some (some v)) := fun {i v} n => by
    rw [← wipe_keep (σ := σ2) n, e, wipe_keep n]
  refine ⟨by rw [wipeE_len, r.len, l], fun i d h => ?_, fun i j d e a h1 h2 w1 w2 s1 s2 => ?_, r.pin, RE.noSpin⟩
  · obtain ⟨h1, h2⟩ := wipeE_some h
    obtain ⟨v, h3, h4⟩ := r.val i d h1
    exact ⟨v, (to h2).mp h3, h4⟩
  · obtain ⟨h1, n1⟩ := wipeE_some h1
    obtain ⟨h2, n2⟩ := wipeE_some h2
    exact r.sep i j d e a h1 h2 w1 w2 ((to n1).mpr s1) ((to n2).mpr s2)
theorem RE.wiped {G : GG} [NoSlot G] {ρ : Env} {σ : L2.St} {H : Hp} {vs : List Nat} (r : RE G (wipeE ρ vs) σ H) : RE G (wipeE ρ vs) (L2.wipe σ vs) H := by
  refine ⟨by rw [L2.wipe_length]; exact r.len, fun i d h => ?_, fun i j d e a h1 h2 w1 w2 s1 s2 => ?_, r.pin, RE.noSpin⟩
  · obtain ⟨v, h3, h4⟩ := r.val i d h
    exact ⟨v, by rw [wipe_keep (wipeE_some h).2]; exact h3, h4⟩
  · rw [wipe_keep (wipeE_some h1).2] at s1
    rw [wipe_keep (wipeE_some h2).2] at s2
    exact r.sep i j d e a h1 h2 w1 w2 s1 s2
theorem own_wiped {ρ : Env} {σ : L2.St} {vs : List Nat} {a : Addr} (h : own (wipeE ρ vs) (L2.wipe σ vs) a) : own (wipeE ρ vs) σ a := by
  obtain ⟨i, d, e1, e2, e3⟩ := h
  exact ⟨i, d, e1, e2, (L2.wipe_some e3).1⟩
theorem own_wipe {ρ : Env} {σ σ2 : L2.St} {vs : List Nat} {a : Addr} (e : L2.wipe σ2 vs = L2.wipe σ vs) (h : own (wipeE ρ vs) σ a) : own ρ σ2 a := by
  obtain ⟨i, d, e1, e2, e3⟩ := h
  obtain ⟨e1, n⟩ := wipeE_some e1
  exact ⟨i, d, e1, e2, by rw [← wipe_keep (σ := σ2) n, e, wipe_keep n]; exact e3⟩
theorem Fr.wipe {ρ ρ4 : Env} {σ σ2 : L2.St} {H H4 : Hp} {vs : List Nat} (f : Fr (wipeE ρ vs) (L2.wipe σ vs) H ρ4 σ2 H4) (e : L2.wipe σ2 vs = L2.wipe σ vs) : Fr (wipeE ρ vs) σ H (wipeE ρ4 vs) σ H4 := fun b o h n =>
  ⟨(f b o h fun z => n (own_wiped z)).1, fun z => (f b o h fun z => n (own_wiped z)).2 (own_wipe e z)⟩
theorem own_wipe0 {ρ : Env} {σ : L2.St} {vs : List Nat} {a : Addr} (h : own (wipeE ρ vs) σ a) : own ρ σ a := own_wipe (σ := σ) (σ2 := σ) rfl h
theorem Fr.wipe0 {ρ : Env} {σ : L2.St} {H : Hp} {vs : List Nat} : Fr ρ σ H (wipeE ρ vs) σ H := fun b o h n => ⟨h, fun z => n (own_wipe0 z)⟩
/-- something unowned changes -/
theorem RE.other {G : GG} [NoSlot G] {ρ : Env} {σ : L2.St} {H : Hp} {a : Addr} {u o : HO} (r : RE G ρ σ H) (h : H a = some u) (f : fixO u = false) (n : ¬ own ρ σ a) : RE G ρ σ (upd H a o) :=
  ⟨r.len, fun i d e => by
    obtain ⟨v, e1, q⟩ := r.val i d e
    refine ⟨v, e1, q.keep (fix_upd h f) fun b x eb w hb => ?_⟩
    have : b ≠ a := fun z => by
      subst z
      exact n ⟨i, d, e, w, by rw [← eb]; exact e1⟩
    rw [upd_ne this]
    exact hb, r.sep, G.pinOk _ _ (fix_upd h f) r.pin, r.spin⟩

/-- a target keeps the number of slots -/
def LenK (tg : D → TV.Env → R TV.Env) : Prop := ∀ d ρ ρ', tg d ρ = .ok ρ' → ρ'.length = ρ.length
theorem lenk_name {i : Nat} : LenK (gN i) := fun d ρ ρ' e => by cases e; exact List.length_set ..
theorem lenk_names : ∀ {is : List Nat} {ds : List D} {ρ ρ' : TV.Env}, gNs is ds ρ = .ok ρ' → ρ'.length = ρ.length
  | [], [], _, _, e => by cases e; rfl
  | [], _ :: _, _, _, e => by cases e
  | _ :: _, [], _, _, e => by cases e
  | i :: is, d :: ds, ρ, ρ', e => (lenk_names (is := is) (ds := ds) e).trans (List.length_set ..)
theorem lenk_tup {is : List Nat} : LenK (gT is) := fun d ρ ρ' e => by
  cases d <;> first | cases e | exact lenk_names e

def lcL (vs : List Nat) (tg : D → TV.Env → R TV.Env) (t : MT) (e : ME) : List D → TV.Env → List D → R (D × TV.Env)
  | [], ρ, acc => .ok (.lst acc, ρ)
  | d :: ds, ρ, acc => match tg d ρ with
    | .ok ρ1 => match t ρ1 with
      | .ok (true, ρ2) => match e ρ2 with
        | .ok (y, ρ3) => if y.own = false ∧ acc.length < sizeLine then lcL vs tg t e ds (wipeE ρ3 vs) (acc ++ [y]) else .stuck
        | _ => .stuck
      | .ok (false, ρ2) => lcL vs tg t e ds (wipeE ρ2 vs) acc
      | _ => .stuck
    | _ => .stuck
def kLc (vs : List Nat) (tg : D → TV.Env → R TV.Env) (t : MT) (e : ME) : List D × TV.Env → R (D × TV.Env) := fun p => lcL vs tg t e p.1 (wipeE p.2 vs) []
def mLc (vs : List Nat) (m : MI) (tg : D → TV.Env → R TV.Env) (t : MT) (e : ME) : ME := fun ρ => (m ρ).bind (kLc vs tg t e)
theorem lcL_ok {vs : List Nat} {tg : D → TV.Env → R TV.Env} {t : MT} {e : ME} : ∀ {ds : List D} {ρ : TV.Env} {acc : List D} {c : Nat} {w : D} {ρ' : TV.Env}, lcL vs tg t e ds ρ acc ≠ .exc c w ρ'
  | [], _, _, _, _, _ => fun z => by cases z
  | d :: ds, ρ, acc, c, w, ρ' => fun z => by
    unfold lcL at z
    split at z
    · split at z
      · split at z
        · split at z
          · exact lcL_ok z
          · cases z
        · cases z
      · exact lcL_ok z
      · cases z
    · cases z
theorem rdLc {G : GG} [NoSlot G] {W : WX} {Y : YY} {m : MI} {g : TG} {A vs : List Nat} {gt : D → TV.Env → R TV.Env} {t : MT} {e : ME} {σ : L2.St} {H : Hp} {Q : VK} (ok : GOk G Y g A gt) (hl : LenK gt) (hA : ∀ i ∈ A, i ∈ vs) (q : rdE G W (mLc vs m gt t e) σ H Q) :
    tLc (rdI G W Y m) g (rdT G WF t) (rdE G WF e) vs σ H Q := by
  obtain ⟨ρ, re, q⟩ := q
  refine ⟨ρ, re, ?_⟩
  have q : postE G W ρ σ H Q ((m ρ).bind (kLc vs gt t e)) := q
  cases em : m ρ with
  | exc c w ρ' => rw [em] at q; exact q
  | stuck => rw [em] at q; exact q
  | ok p =>
    rw [em] at q
    obtain ⟨ds, ρ1⟩ := p
    intro J H1 S r1 f1 I s1 D hD
    have q : postE G W ρ σ H Q (lcL vs gt t e ds (wipeE ρ1 vs) []) := q
    have hDH : H D = none ∨ own ρ σ D := by
      by_cases z : own ρ σ D
      · exact .inr z
      · cases y : H D with
        | none => exact .inl rfl
        | some o =>
          have := (f1 D o y z).1
          rw [hD] at this
          cases this
    -- the state at turn j
    let P : Nat → Hp → Prop := fun j H' => j ≤ ds.length ∧ ∃ ρx acc us, RE G (wipeE ρx vs) σ H' ∧ Fr ρ σ H (wipeE ρx vs) σ H' ∧ S (wipeE ρx vs) σ H' ∧ H' D = some (.lst us) ∧ RVs G H' acc us ∧ ¬ own (wipeE ρx vs) σ D ∧ postE G W ρ σ H Q (lcL vs gt t e (ds.drop j) (wipeE ρx vs) acc)
    have sm0 : Same H1 (upd H1 D (.lst [])) := fun b o hb => by
      have : b ≠ D := fun z => by
        subst z
        rw [hD] at hb
        cases hb
      rw [upd_ne this]
      exact hb
    have nD : ¬ own ρ1 σ D := fun z => by
      obtain ⟨u, hu, _⟩ := r1.there z
      rw [hD] at hu
      cases hu
    refine ⟨fun j mm H' => mm = ds.length - j ∧ P j H', ⟨_, rfl, Nat.zero_le _, ρ1, [], [], (r1.same sm0).wipe rfl, f1.trans ((Fr.same sm0).trans Fr.wipe0), I.stay _ _ _ _ _ _ (I.stay _ _ _ _ _ _ s1 r1 (Fr.same sm0)) (r1.same sm0) Fr.wipe0, upd_same, .nil, fun z => nD (own_wipe0 z), q⟩, ?_⟩
    rintro j mm H2 ⟨rfl, hj, ρ2, acc, us, r2, f2, s2, hd2, rv2, nD2, q2⟩
    by_cases c : j < ds.length
    · have e0 : ds[j]? = some ds[j] := List.getElem?_eq_getElem c
      rw [List.drop_eq_getElem_cons c] at q2
      refine .inr ⟨I.go _ _ _ j s2 c, fun H' => P (j + 1) H', fun H' z => ⟨_, by omega, rfl, z⟩, fun x H3 y => ?_⟩
      obtain ⟨sm, y3⟩ := I.yld _ _ _ j x H3 _ s2 r2 y e0
      have r3 := r2.same sm
      have f3 : Fr (wipeE ρ2 vs) σ H2 (wipeE ρ2 vs) σ H3 := Fr.same sm
      have s3 := I.stay _ _ _ _ _ _ s2 r2 f3
      have hd3 : H3 D = some (.lst us) := sm D _ hd2
      have rv3 : RVs G H3 acc us := rv2.mono (f3.fix r2)
      unfold lcL at q2
      cases eg : gt ds[j] (wipeE ρ2 vs) with
      | exc c w ρ' => rw [eg] at q2; exact q2.elim
      | stuck => rw [eg] at q2; exact q2.elim
      | ok ρ4 =>
        rw [eg] at q2
        have q2 : postE G W ρ σ H Q (match t ρ4 with
          | .ok (true, ρ2) => match e ρ2 with
            | .ok (y, ρ3) => if y.own = false ∧ acc.length < sizeLine then lcL vs gt t e (ds.drop (j + 1)) (wipeE ρ3 vs) (acc ++ [y]) else .stuck
            | _ => .stuck
          | .ok (false, ρ2) => lcL vs gt t e (ds.drop (j + 1)) (wipeE ρ2 vs) acc
          | _ => .stuck) := q2
        refine ok _ x _ ρ4 _ H3 _ r3.wiped y3 eg fun σ4 H4 r4 f4 sb4 => ?_
        have we : L2.wipe σ4 vs = L2.wipe σ vs := wipe_eq sb4 hA (by rw [← r4.len, hl _ _ _ eg, r2.len])
        refine ⟨we, ρ4, r4, ?_⟩
        -- what goes on from a state of the block
        have on : ∀ {ρ5 : TV.Env} {H5 : Hp}, RE G ρ5 σ4 H5 → Fr ρ4 σ4 H4 ρ5 σ4 H5 → Fr (wipeE ρ2 vs) σ H2 (wipeE ρ5 vs) σ H5 ∧ RE G (wipeE ρ5 vs) σ H5 ∧ ¬ own ρ5 σ4 D ∧ H5 D = some (.lst us) ∧ RVs G H5 acc us := fun {ρ5 H5} r5 f5 => by
          have g : Fr (wipeE ρ2 vs) (L2.wipe σ vs) H3 ρ5 σ4 H5 := f4.trans f5
          have w := g D _ hd3 fun z => nD2 (own_wiped z)
          exact ⟨f3.trans (g.wipe we), r5.wipe we, w.2, w.1, rv3.mono (g.fix r3.wiped)⟩
        cases et : t ρ4 with
        | exc c w ρ' => rw [et] at q2; exact q2.elim
        | stuck => rw [et] at q2; exact q2.elim
        | ok pt =>
          rw [et] at q2
          obtain ⟨b, ρ5⟩ := pt
          intro H5 r5 f5
          cases b with
          | false =>
            rw [if_neg Bool.false_ne_true]
            obtain ⟨g1, g2, g3, g4, g5⟩ := on r5 f5
            exact ⟨c, ρ5, acc, us, g2, f2.trans g1, I.stay _ _ _ _ _ _ s2 r2 g1, g4, g5, fun z => g3 (own_wipe we z), q2⟩
          | true =>
            rw [if_pos rfl]
            refine ⟨ρ5, r5, ?_⟩
            have q2 : postE G W ρ σ H Q (match e ρ5 with
              | .ok (y, ρ3) => if y.own = false ∧ acc.length < sizeLine then lcL vs gt t e (ds.drop (j + 1)) (wipeE ρ3 vs) (acc ++ [y]) else .stuck
              | _ => .stuck) := q2
            cases ee : e ρ5 with
            | exc c w ρ' => rw [ee] at q2; exact q2.elim
            | stuck => rw [ee] at q2; exact q2.elim
            | ok pe =>
              rw [ee] at q2
              obtain ⟨yd, ρ6⟩ := pe
              have q2 : postE G W ρ σ H Q (if yd.own = false ∧ acc.length < sizeLine then lcL vs gt t e (ds.drop (j + 1)) (wipeE ρ6 vs) (acc ++ [yd]) else .stuck) := q2
              by_cases cy : yd.own = false ∧ acc.length < sizeLine
              · rw [if_pos cy] at q2
                intro v H6 r6 f6 z6
                obtain ⟨g1, g2, g3, g4, g5⟩ := on r6 (f5.trans f6)
                have hv : RV G H6 yd v := z6.1.rv cy.1
                refine ⟨us, g4, by rw [← g5.length]; exact cy.2, ?_⟩
                have fx : Fix H6 (upd H6 D (.lst (us ++ [v]))) := fix_upd g4 rfl
                have nD6 : ¬ own (wipeE ρ6 vs) σ D := fun z => g3 (own_wipe we z)
                have fr6 : Fr (wipeE ρ2 vs) σ H2 (wipeE ρ6 vs) σ H6 := g1
                have f7 : Fr ρ σ H (wipeE ρ6 vs) σ (upd H6 D (.lst (us ++ [v]))) := fun b o hb n => by
                  have w := (f2.trans g1) b o hb n
                  have : b ≠ D := fun z => by
                    subst z
                    rcases hDH with z | z
                    · rw [hb] at z; cases z
                    · exact n z
                  exact ⟨by rw [upd_ne this]; exact w.1, w.2⟩
                refine ⟨c, ρ6, acc ++ [yd], us ++ [v], g2.other g4 rfl nD6, f7, I.off _ _ _ D s1 hD _ _ _ _ _ (I.stay _ _ _ _ _ _ s2 r2 g1) g4 rfl, upd_same, (g5.mono fx).app (.cons (hv.mono fx) .nil), nD6, q2⟩
              · rw [if_neg cy] at q2
                exact q2.elim
    · have ej : j = ds.length := by omega
      subst ej
      rw [List.drop_length] at q2
      refine .inl ⟨I.stop _ _ _ _ s2 (Nat.le_refl _), ?_⟩
      exact q2 (.ref D) H2 r2 f2 ⟨⟨D, us, rfl, hd2, rv2⟩, fun a ea _ => by cases ea; exact ⟨nD2, hDH⟩⟩
section
variable {X : Cx} {G : GG} [NoSlot G] {W : WX}
theorem se_lc {elt tg iter : Expr} {ifs : List Expr} {scope : Scope} {own : List (Str × Nat)} {pos : Pos} {Y : YY} {m : MI} {g : TG} {A : List Nat} {gt : D → TV.Env → R TV.Env} {t : MT} {e : ME} (C : CT X G W) (hi : SI X G W tg iter Y m) (bk : BlkOk X.N X.env.scope scope own)
    (ok : GOk G Y g A gt) (hl : LenK gt) (hA : ∀ i ∈ A, i ∈ own.map (·.2))
    (hg : ∀ (s : Shared) (H : Hp) (c : Addr) (cl : List (Str × Addr)) (fp : List Addr), PG (X.blk s H scope (compEnvC scope cl c X.env) fp) tg g)
    (ht : ∀ (s : Shared) (H : Hp) (c : Addr) (cl : List (Str × Addr)) (fp : List Addr), STs (X.blk s H scope (compEnvC scope cl c X.env) fp) G WF ifs t)
    (he : ∀ (s : Shared) (H : Hp) (c : Addr) (cl : List (Str × Addr)) (fp : List Addr), SE (X.blk s H scope (compEnvC scope cl c X.env) fp) G WF elt e) (hs : ∀ x, foldedSetIterable iter X.env x = pure x := by intro _; rfl) :
    SE X G W (.ListComp elt [⟨tg, iter, ifs, 0⟩] scope pos) (mLc (own.map (·.2)) m gt t e) := pe_wk (pe_lc (C.calm (NoSlot.c (G := G))) C.nd hi bk hg ht he hs) fun σ H Q q => rdLc ok hl hA q
/-- name = [..] on one line -/
theorem ss_setLc {i : Nat} {y : Str} {py : Pos} {elt tg iter : Expr} {ifs : List Expr} {scope : Scope} {own : List (Str × Nat)} {pos spos : Pos} {Y : YY} {m : MI} {g : TG} {A : List Nat} {gt : D → TV.Env → R TV.Env} {t : MT} {e : ME} (C : CT X G W) (hy : X.N[i]? = some y) (hyl : X.env.scope.names.lookup y = some .local)
    (hsw : swapsWith (.ListComp elt [⟨tg, iter, ifs, 0⟩] scope pos) (some (.Name y py)) spos.line X.env = pure true) (hi : SI X G W tg iter Y m) (bk : BlkOk X.N X.env.scope scope own)
    (ok : GOk G Y g A gt) (hl : LenK gt) (hA : ∀ i ∈ A, i ∈ own.map (·.2))
    (hg : ∀ (s : Shared) (H : Hp) (c : Addr) (cl : List (Str × Addr)) (fp : List Addr), PG (X.blk s H scope (compEnvC scope cl c X.env) fp) tg g)
    (ht : ∀ (s : Shared) (H : Hp) (c : Addr) (cl : List (Str × Addr)) (fp : List Addr), STs (X.blk s H scope (compEnvC scope cl c X.env) fp) G WF ifs t)
    (he : ∀ (s : Shared) (H : Hp) (c : Addr) (cl : List (Str × Addr)) (fp : List Addr), SE (X.blk s H scope (compEnvC scope cl c X.env) fp) G WF elt e) (hs : ∀ x, foldedSetIterable iter X.env x = pure x := by intro _; rfl) :
    SS X G W (.Assign [.Name y py] (.ListComp elt [⟨tg, iter, ifs, 0⟩] scope pos) spos) [i] (mDo (mLc (own.map (·.2)) m gt t e) (kSet i)) := ps_wk (ps_setLc (C.calm (NoSlot.c (G := G))) C.nd hy hyl hsw hi bk hg ht he hs) fun E σ H q => rdLc ok hl hA (rdES q fun ρ ρ1 d v H1 r1 fr rs z => z _ H1 (r1.setN rs i) (Fr.set r1 fr rs) same_set)
end
end TV

/-! Tv14: assignments to several names, to items; dicts of ints and texts; slices. -/
namespace TV
open PySem PySem.Spec PyProof.Rows L2
theorem Fr.set1 {ρ ρ1 : TV.Env} {σ σ1 : L2.St} {H H1 : Hp} {d : D} {v : V} {i : Nat} (l : ρ1.length = σ1.length) (f : Fr ρ σ H ρ1 σ1 H1) (q : ∀ a, v = .ref a → d.own = true → H a = none ∨ own ρ σ a) : Fr ρ σ H (ρ1.set i (some d)) (σ1.set i (some v)) H1 := fun b o hb n => by
  obtain ⟨h1, h2⟩ := f b o hb n
  refine ⟨h1, fun z => ?_⟩
  rcases own_set l z with ⟨e, w⟩ | z
  · rcases q b e w with z | z
    · rw [hb] at z
      cases z
    · exact n z
  · exact h2 z
section
variable {X : Cx} {G : GG} [NoSlot G] {W : WX} {pos : Pos}

/-! ### a, b, .. = a tuple -/
def kUnp (is : List Nat) : D × TV.Env → R (Out × TV.Env) := fun p => (gT is p.1 p.2).bind fun ρ => .ok (.nx, ρ)
theorem ss_unp {es : List Expr} {k : Nat} {tp : Pos} {e : Expr} {m : ME} {is : List Nat} (c : CT X G W) (he : SE X G W e m) (hg : PGs X es (gTs is))
    (hn : (assignEach es X.env).length = is.length := by rfl) (hst : (assignEach es X.env).findIdx? (·.1) = none := by rfl)
    (hs : swapsWithSole [.Tuple es k tp] e pos.line X.env = pure false := by rfl) (hw : swappedStores [.Tuple es k tp] e X.env = pure none := by rfl)
    (h1 : (assignEach [.Tuple es k tp] X.env).map (·.2) = [assign (.Tuple es k tp) X.env] := by rfl) : SS X G W (.Assign [.Tuple es k tp] e pos) is (mDo m (kUnp is)) :=
  ps_wk (ps_asg he (pg_tup (c.calm (NoSlot.c (G := G))) hg hn hst) hs hw h1) fun E σ H q => rdES q fun ρ ρ1 d v H1 r1 fr rs z => by
    have z : postS G W is ρ σ H E ((gT is d ρ1).bind fun ρ => .ok (.nx, ρ)) := z
    cases e2 : gT is d ρ1 with
    | exc c w ρ' => exact absurd e2 (nex_tup _ _ _ _ _)
    | stuck => rw [e2] at z; exact z.elim
    | ok ρ2 =>
      rw [e2] at z
      have z3 : ∀ σ' H', RE G ρ2 σ' H' → Fr ρ σ H ρ2 σ' H' → SameBut is σ σ' → E.nx σ' H' := z
      cases d with
      | tup ds =>
        obtain ⟨a, vs, rfl, ts, rv⟩ := rs.1.tupOf
        have ok := gok_tup (is := is) (G := G) (.tup ds) (.ref a) ρ1 ρ2 σ H1 E.nx r1 ⟨ds, a, vs, rfl, rfl, ts.sqt, rv⟩ e2 fun σ' H' r' f' s' => z3 σ' H' r' (fr.trans f') s'
        rw [← c.k]
        exact ok
      | _ => cases e2
/-- a, b = x, y (plain local names: stored from the right) -/
def kPar2 (j : Nat) (n : ME) (i : Nat) : D × TV.Env → R (Out × TV.Env) := fun p => (n p.2).bind fun q => .ok (.nx, (q.2.set i (some p.1)).set j (some q.1))
def mPar (i j : Nat) (m n : ME) : MS := mDo m (kPar2 j n i)
theorem ss_par {i j : Nat} {x y : Str} {a b : Expr} {m n : ME} {px py pt : Pos} {kt k2 pt2} (c : CT X G W) (hi : X.N[i]? = some x) (hj : X.N[j]? = some y) (hij : i ≠ j)
    (hx : X.env.scope.names.lookup x = some .local) (hy : X.env.scope.names.lookup y = some .local) (ha : SE X G W a m) (hb : SE X G W b n)
    (hw : swappedStores [.Tuple [.Name x px, .Name y py] kt pt] (.Tuple [a, b] k2 pt2) X.env = pure (some [x, y]))
    (hs : swapsWithSole [.Tuple [.Name x px, .Name y py] kt pt] (.Tuple [a, b] k2 pt2) pos.line X.env = pure false := by rfl)
    (h1 : starEach [a, b] X.env = (false, eval a X.env) :: starEach [b] X.env := by rfl) (h2 : starEach [b] X.env = (false, eval b X.env) :: starEach [] X.env := by rfl) :
    SS X G W (.Assign [.Tuple [.Name x px, .Name y py] kt pt] (.Tuple [a, b] k2 pt2) pos) [i, j] (mPar i j m n) :=
  ps_wk (ps_par (c.calm (NoSlot.c (G := G))) c.nd hi hj hij hx hy (pa_cons ha (pa_cons hb pa_nil h2) h1) hw hs) fun E σ H q => rdES q fun ρ ρ1 d v H1 r1 fr rs z => by
    have z : postS G W [i, j] ρ σ H E ((n ρ1).bind fun q => .ok (.nx, (q.2.set i (some d)).set j (some q.1))) := z
    refine ⟨ρ1, r1, ?_⟩
    cases e2 : n ρ1 with
    | exc c w ρ' => rw [e2] at z; exact fun σ' H' dd fs v a1 a2 a3 => z σ' H' dd fs v a1 (fr.trans a2) (fun k _ => a3 k fun h => nomatch h)
    | stuck => rw [e2] at z; exact z.elim
    | ok p =>
      rw [e2] at z
      obtain ⟨d2, ρ2⟩ := p
      intro w H2 r2 f2 rs2
      have q1 := rs.later r1 f2
      refine ⟨v, w, rfl, ?_⟩
      have q2 : Res G ρ1 σ H1 (ρ2.set i (some d)) (σ.set i (some v)) H2 d2 w := ⟨rs2.1, fun a ea oa => ⟨fun o => ?_, (rs2.2 a ea oa).2⟩⟩
      · refine z _ H2 ((r2.setN q1 i).setN q2 j) ?_ fun k hk => ?_
        · have fa : Fr ρ σ H (ρ2.set i (some d)) (σ.set i (some v)) H2 := Fr.set r2 (fr.trans f2) q1
          exact Fr.set1 (r2.setN q1 i).len fa fun a ea oa => ((rs2.ahead fr).2 a ea oa).2
        · rw [List.getElem?_set_ne (fun z => hk (by rw [z]; exact List.mem_cons_of_mem _ List.mem_cons_self)), List.getElem?_set_ne (fun z => hk (by rw [z]; exact List.mem_cons_self))]
      · rcases own_set r2.len o with ⟨ev, ow⟩ | o
        · subst ea
          cases ev
          rcases (rs2.2 a rfl oa).2 with k | k
          · obtain ⟨a', u, e1, e3, _⟩ := rs.1.at ow
            cases e1
            rw [k] at e3
            cases e3
          · exact (rs.2 a rfl ow).1 k
        · exact (rs2.2 a ea oa).1 o
/-- t1 = t2 = e -/
def kSet2 (i j : Nat) : D × TV.Env → R (Out × TV.Env) := fun p => if p.1.own = true then .stuck else .ok (.nx, (p.2.set i (some p.1)).set j (some p.1))
theorem ss_set2 {i j : Nat} {x y : Str} {p1 p2 : Pos} {e : Expr} {m : ME} (c : CT X G W) (he : SE X G W e m) (h1 : PG X (.Name x p1) (gName i)) (h2 : PG X (.Name y p2) (gName j))
    (ha : (assignEach [.Name x p1, .Name y p2] X.env).map (·.2) = [assign (.Name x p1) X.env, assign (.Name y p2) X.env] := by rfl) (hw : swappedStores [.Name x p1, .Name y p2] e X.env = pure none := by rfl) :
    SS X G W (.Assign [.Name x p1, .Name y p2] e pos) [i, j] (mDo m (kSet2 i j)) :=
  ps_wk (ps_asg2 he h1 h2 ha hw) fun E σ H q => rdES q fun ρ ρ1 d v H1 r1 fr rs z => by
    have z : postS G W [i, j] ρ σ H E (if d.own = true then .stuck else .ok (.nx, (ρ1.set i (some d)).set j (some d))) := z
    by_cases o : d.own = true
    · rw [if_pos o] at z; exact z.elim
    · rw [if_neg o] at z
      have o : d.own = false := by cases h : d.own <;> first | rfl | exact absurd h o
      have rv := rs.1.rv o
      have r2 := r1.setN rs i
      have q2 : Res G (ρ1.set i (some d)) (σ.set i (some v)) H1 (ρ1.set i (some d)) (σ.set i (some v)) H1 d v := Res.of_rv rv
      refine z _ H1 (r2.setN q2 j) ?_ fun k hk => ?_
      · exact Fr.set1 r2.len (Fr.set r1 fr rs) fun a ea oa => by rw [o] at oa; cases oa
      · rw [List.getElem?_set_ne (fun z => hk (by rw [z]; exact List.mem_cons_of_mem _ List.mem_cons_self)), List.getElem?_set_ne (fun z => hk (by rw [z]; exact List.mem_cons_self))]
end

/-! ### xs[i] = v; d[k] = v -/
/-- f: from the value that is changed, the index and the value the new value -/
def kSto (i : Nat) (oi : Opd) (f : D → D → D → Option D) : D × TV.Env → R (Out × TV.Env) := fun p => (ev [oi] p.2).bind fun q => match q.2[i]?, rds [oi] q.1 q.2 with
  | some (some x), some [k] => match f x k p.1 with
    | some y => .ok (.nx, q.2.set i (some y))
    | none => .stuck
  | _, _ => .stuck
def mSto (i : Nat) (m : ME) (oi : Opd) (f : D → D → D → Option D) : MS := fun ρ => match ρ[i]? with
  | some (some _) => (m ρ).bind (kSto i oi f)
  | _ => .stuck
/-- the rule does f -/
def StoR (G : GG) (r : V → V → V → Hp → (Hp → Prop) → Prop) (f : D → D → D → Option D) : Prop := ∀ (H : Hp) (x k v : V) (dx dk d y : D) (Q : Hp → Prop), RS G H dx x → RS G H dk k → RS G H d v → f dx dk d = some y →
  (∀ a u o, x = .ref a → H a = some u → fixO u = false → dx.own = true → y.own = true → d.own = false → RS G (upd H a o) y x → Q (upd H a o)) → r x k v H Q
theorem rdSto {i : Nat} {m : ME} {oi : Opd} {f : D → D → D → Option D} {r : V → V → V → Hp → (Hp → Prop) → Prop} {G : GG} [NoSlot G] {W : WX} {A : List Nat} {E : Ends} {σ : L2.St} {H : Hp} (hr : StoR G r f) (q : rdS G W A (mSto i m oi f) E σ H) :
    rdE G W m σ H fun v H1 => tVar i σ H1 fun x H2 => tO G W oi σ H2 fun k H3 => r x k v H3 fun H4 => E.nx σ H4 := by
  obtain ⟨ρ, re, q⟩ := q
  unfold mSto at q
  split at q
  case h_2 => exact q.elim
  rename_i d0 e0
  obtain ⟨x0, s0, _⟩ := re.val i _ e0
  refine ⟨ρ, re, ?_⟩
  cases em : m ρ with
  | exc c w ρ' => rw [em] at q; exact fun σ' H' dd fs v a1 a2 a3 => q σ' H' dd fs v a1 a2 (fun k _ => a3 k fun h => nomatch h)
  | stuck => rw [em] at q; exact q.elim
  | ok p =>
    rw [em] at q
    obtain ⟨d, ρ1⟩ := p
    intro v H1 r1 f1 rs1
    have q : postS G W A ρ σ H E ((ev [oi] ρ1).bind fun q => match q.2[i]?, rds [oi] q.1 q.2 with
      | some (some x), some [k] => match f x k d with
        | some y => .ok (.nx, q.2.set i (some y))
        | none => .stuck
      | _, _ => .stuck) := q
    refine ⟨x0, s0, ?_⟩
    have k := opds_run (W := W) (os := [oi]) (σ := σ) (H := H1) (Q := fun vs H3 => ∃ k, vs = [k] ∧ r x0 k v H3 fun H4 => E.nx σ H4) r1 ?_
    · exact tO_mono k fun x H3 _ ⟨k, e, z⟩ => by cases e; exact z
    · cases e2 : ev [oi] ρ1 with
      | exc c w ρ' => rw [e2] at q; exact fun σ' H' dd fs v a1 a2 a3 => q σ' H' dd fs v a1 (f1.trans a2) (fun k _ => a3 k fun h => nomatch h)
      | stuck => rw [e2] at q; exact q.elim
      | ok p2 =>
        rw [e2] at q
        obtain ⟨ks, ρ2⟩ := p2
        intro us H3 r3 f3 hq
        have q : postS G W A ρ σ H E (match ρ2[i]?, rds [oi] ks ρ2 with
          | some (some x), some [k] => match f x k d with
            | some y => .ok (.nx, ρ2.set i (some y))
            | none => .stuck
          | _, _ => .stuck) := q
        split at q
        case h_2 => exact q.elim
        rename_i dx dk e3 e4
        split at q
        case h_2 => exact q.elim
        rename_i y e5
        have z := hq _ e4
        cases z with
        | cons zk zr =>
          cases zr
          obtain ⟨x1, s1, rsx⟩ := r3.val i _ e3
          rw [s0] at s1
          cases s1
          refine ⟨_, rfl, hr H3 x0 _ v dx dk d y _ rsx zk (rs1.later r1 f3).1 e5 fun a u o ex hu fu wx wy wd rsy => ?_⟩
          subst ex
          exact q σ _ (r3.put e3 wx s0 hu fu wy rsy) ((f1.trans f3).trans (Fr.put e3 wx s0)) SameBut.refl
/-- lists -/
def fSetL : D → D → D → Option D
  | .lst xs, .int k, d => match ixN xs.length k with
    | some j => if d.own = false then some (.lst (xs.set j d)) else none
    | none => none
  | _, _, _ => none
theorem sto_list {G : GG} [NoSlot G] : StoR G rSetL fSetL := by
  intro H x k v dx dk d y Q h1 h2 h3 ef q
  unfold fSetL at ef
  split at ef
  · rename_i xs n
    split at ef
    · rename_i j hj
      split at ef
      · rename_i o
        cases ef
        obtain ⟨a, vs, rfl, ha, rv⟩ := h1
        rw [h2.intOf]
        have fx : Fix H (upd H a (.lst (vs.set j v))) := fix_upd ha rfl
        exact ⟨a, vs, n, j, rfl, rfl, ha, by rw [← rv.length]; exact hj, q a _ _ rfl ha rfl rfl rfl o ⟨a, vs.set j v, rfl, upd_same, (rv.set (h3.rv o) j).mono fx⟩⟩
      · cases ef
    · cases ef
  · cases ef
end TV

/-! Tv15: dicts of ints and texts; in; slices. -/
namespace TV
open PySem PySem.Spec PyProof.Rows L2

def dKey : D → Option Key
  | .int i => some (.inl i)
  | .str x => some (.inr x)
  | _ => none
theorem RS.key {G : GG} [NoSlot G] {H : Hp} {d : D} {v : V} {k : Key} (h : RS G H d v) (e : dKey d = some k) : v = L2.kV k := by
  cases d with
  | int i => cases e; exact h.intOf
  | str x => cases e; exact h.strOf
  | _ => cases e
def dGetK (ks : List Key) (ds : List D) (k : Key) : Option D := ((ks.zip ds).find? fun p => decide (p.1 = k)).map (·.2)
def dPutK (ks : List Key) (ds : List D) (k : Key) (d : D) : D :=
  if (ks.any fun x => decide (x = k)) = true then .dic ks ((ks.zip ds).map fun p => if p.1 = k then d else p.2) else .dic (ks ++ [k]) (ds ++ [d])
theorem getK_ok {G : GG} [NoSlot G] {H : Hp} {k : Key} : ∀ {ks : List Key} {ds : List D} {us : List V}, RVs G H ds us → (∀ d, dGetK ks ds k = some d → ∃ u, valV (ks.zip us) k = some u ∧ RV G H d u) ∧ (dGetK ks ds k = none → valV (ks.zip us) k = none)
  | [], _, _, _ => ⟨(fun d e => by cases e), fun _ => rfl⟩
  | _ :: _, _, _, .nil => ⟨(fun d e => by cases e), fun _ => rfl⟩
  | x :: ks, _, _, .cons (d := d0) (ds := ds) (v := v) (vs := vs) h r => by
    have ih := getK_ok (k := k) (ks := ks) r
    unfold dGetK valV
    rw [List.zip_cons_cons, List.zip_cons_cons, List.find?_cons, List.find?_cons]
    by_cases c : x = k
    · simp only [c, decide_true]
      exact ⟨(fun d e => by cases e; exact ⟨v, rfl, h⟩), (fun e => by cases e)⟩
    · simp only [c, decide_false]
      exact ih
theorem putK_zip {k : Key} {v : V} : ∀ (ks : List Key) (us : List V), ks.length = us.length → (ks.zip us).map (fun kv => if kv.1 = k then (kv.1, v) else kv) = ks.zip ((ks.zip us).map fun p => if p.1 = k then v else p.2)
  | [], [], _ => rfl
  | x :: ks, u :: us, l => by
    have ih := putK_zip (k := k) (v := v) ks us (Nat.succ.inj l)
    simp only [List.zip_cons_cons, List.map_cons]
    rw [ih]
    by_cases c : x = k
    · rw [if_pos c, if_pos c]
    · rw [if_neg c, if_neg c]
theorem rvs_put {G : GG} [NoSlot G] {H : Hp} {k : Key} {d : D} {v : V} (q : RV G H d v) : ∀ {ks : List Key} {ds : List D} {us : List V}, RVs G H ds us → RVs G H ((ks.zip ds).map fun p => if p.1 = k then d else p.2) ((ks.zip us).map fun p => if p.1 = k then v else p.2)
  | [], _, _, _ => .nil
  | _ :: _, _, _, .nil => .nil
  | x :: ks, _, _, .cons h r => by
    simp only [List.zip_cons_cons, List.map_cons]
    refine .cons ?_ (rvs_put q r)
    by_cases c : x = k
    · rw [if_pos c, if_pos c]; exact q
    · rw [if_neg c, if_neg c]; exact h
theorem any_zip {k : Key} : ∀ (ks : List Key) (us : List V), ks.length = us.length → ((ks.zip us).any fun kv => decide (kv.1 = k)) = ks.any fun x => decide (x = k)
  | [], [], _ => rfl
  | x :: ks, u :: us, l => by
    rw [List.zip_cons_cons, List.any_cons, List.any_cons, any_zip ks us (Nat.succ.inj l)]
/-- d[k] = v -/
def rPutD : V → V → V → Hp → (Hp → Prop) → Prop := fun x k v H Q => ∃ a H4, x = .ref a ∧ DPut H a k v H4 ∧ Q H4
def fSetD : D → D → D → Option D
  | .dic ks ds, dk, d => match dKey dk with
    | some k => if d.own = false ∧ ks.length < sizeLine then some (dPutK ks ds k d) else none
    | none => none
  | _, _, _ => none
theorem sto_dict {G : GG} [NoSlot G] : StoR G rPutD fSetD := by
  intro H x k v dx dk d y Q h1 h2 h3 ef q
  unfold fSetD at ef
  split at ef
  · rename_i ks ds
    split at ef
    · rename_i kk hk
      split at ef
      · rename_i o
        cases ef
        obtain ⟨a, us, rfl, ha, ln, rv⟩ := h1
        have hl : ks.length = us.length := ln.trans rv.length
        have hv := h3.rv o.1
        have fx : ∀ z, Fix H (upd H a (.dK z)) := fun z => fix_upd ha rfl
        rw [h2.key hk]
        refine ⟨a, _, rfl, DPut.k ha (by rw [List.length_zip, ← hl, Nat.min_self]; exact o.2), q a _ _ rfl ha rfl rfl ?_ o.1 ?_⟩
        · unfold dPutK
          split <;> rfl
        · unfold dPutK L2.putK
          rw [any_zip ks us hl]
          by_cases c : (ks.any fun x => decide (x = kk)) = true
          · rw [if_pos c, if_pos c, putK_zip ks us hl]
            exact ⟨a, _, rfl, upd_same, by rw [List.length_map, List.length_zip, ← ln, Nat.min_self], (rvs_put hv rv).mono (fx _)⟩
          · rw [if_neg c, if_neg c]
            refine ⟨a, us ++ [v], rfl, ?_, by rw [List.length_append, List.length_append, ln]; rfl, (rv.app (.cons hv .nil)).mono (fx _)⟩
            rw [List.zip_append hl]
            exact upd_same
      · cases ef
    · cases ef
  · cases ef
section
variable {X : Cx} {G : GG} [NoSlot G] {W : WX} {pos pos' : Pos} {a b e : Expr} {oa ob oi : Opd} {m : ME}
theorem ss_dput {i : Nat} {x : Str} {p : Pos} (c : CT X G W) (ho : PE X (.Name x p) (tVar i)) (hi : SO X G W a oi) (hv : SE X G W e m) (hs : swapsWith e (some (.Subscript (.Name x p) a pos')) pos.line X.env = pure false := by rfl) :
    SS X G W (.Assign [.Subscript (.Name x p) a pos'] e pos) [] (mSto i m oi fSetD) := ps_wk (ps_dput (by have := c.un; omega) ho hi hv hs) fun E σ H q => rdSto sto_dict q
theorem ss_lput {i : Nat} {x : Str} {p : Pos} (ho : PE X (.Name x p) (tVar i)) (hi : SO X G W a oi) (hv : SE X G W e m)
    (ha : ∀ v, assign (.Subscript (.Name x p) a pos') X.env v = (do
      let ov ← holding [v] (eval (.Name x p) X.env)
      let iv ← holding [v, ov] (eval a X.env)
      standAt pos'
      holding [v, ov, iv] (setItem ov iv v)
      release [v, ov, iv] []) := by intro _; rfl)
    (hs : swapsWithSole [.Subscript (.Name x p) a pos'] e pos.line X.env = pure false := by rfl) (hw : swappedStores [.Subscript (.Name x p) a pos'] e X.env = pure none := by rfl)
    (h1 : (assignEach [.Subscript (.Name x p) a pos'] X.env).map (·.2) = [assign (.Subscript (.Name x p) a pos') X.env] := by rfl) :
    SS X G W (.Assign [.Subscript (.Name x p) a pos'] e pos) [] (mSto i m oi fSetL) := ps_wk (ps_asg hv (pg_sub ho hi set_list ha) hs hw h1) fun E σ H q => rdSto sto_list q
/-- {} -/
def mDicNew : ME := fun ρ => .ok (.dic [] [], ρ)
theorem se_dnew : SE X G W (.Dict [] [] pos) mDicNew := pe_wk pe_dnewK fun σ H Q q => by
  obtain ⟨ρ, re, q⟩ := q
  intro p hp
  have sm : Same H (upd H p (.dK [])) := fun b o hb => by
    rw [upd_ne (fun z => by subst z; rw [hp] at hb; cases hb)]
    exact hb
  exact q (.ref p) _ (re.same sm) (Fr.same sm) (Res.new re ⟨p, [], rfl, upd_same, rfl, .nil⟩ fun a ea _ => by cases ea; exact hp)

/-! ### in -/
def rDIn (neg : Bool) : R2 := fun y x H Q => ∃ a o, x = .ref a ∧ DGet H a y o ∧ Q (.bl (if neg then !o.isSome else o.isSome)) H
theorem op_dIn (hu : X.A.units + 1 < cLine) : OpR X (compareOp .In) (rDIn false) := by
  rintro pins s σ H y x v u Q I ry rx ⟨a, o, rfl, g, q⟩
  cases rx
  exact d_in hu I g ry fun s3 I3 => ⟨.bl o.isSome, H, I3, rfl, q⟩
theorem op_dNotIn (hu : X.A.units + 1 < cLine) : OpR X (compareOp .NotIn) (rDIn true) := by
  rintro pins s σ H y x v u Q I ry rx ⟨a, o, rfl, g, q⟩
  cases rx
  exact d_notIn hu I g ry fun s3 I3 => ⟨.bl (!o.isSome), H, I3, rfl, q⟩
def dInD (neg : Bool) : D → List Key → List D → Option D := fun dk ks ds => (dKey dk).map fun k => .bl (if neg then !(dGetK ks ds k).isSome else (dGetK ks ds k).isSome)
def dInA (neg : Bool) : List D → Option D
  | [dk, .dic ks ds] => dInD neg dk ks ds
  | l => dInF neg l
theorem v2_inA {neg : Bool} : V2 G (fun x y H Q => rIn G.K neg x y H Q ∨ rDIn neg x y H Q) (dInA neg) := by
  intro H x y d e z Q h1 h2 ef g
  by_cases c : ∃ ks ds, e = .dic ks ds
  · obtain ⟨ks, ds, rfl⟩ := c
    have ef : (dKey d).map (fun k => D.bl (if neg then !(dGetK ks ds k).isSome else (dGetK ks ds k).isSome)) = some z := ef
    rw [Option.map_eq_some_iff] at ef
    obtain ⟨k, hk, rfl⟩ := ef
    obtain ⟨a, us, rfl, ha, ln, rv⟩ := h2
    rw [h1.key hk]
    refine .inr ⟨a, valV (ks.zip us) k, rfl, DGet.k ha, ?_⟩
    have w := getK_ok (k := k) (ks := ks) rv
    have : (valV (ks.zip us) k).isSome = (dGetK ks ds k).isSome := by
      cases q : dGetK ks ds k with
      | none => rw [w.2 q]; rfl
      | some d => obtain ⟨u, hu, _⟩ := w.1 d q; rw [hu]; rfl
    rw [this]
    exact g.val (.bl _)
  · have ef : dInF neg [d, e] = some z := by
      cases e <;> first | exact ef | exact absurd ⟨_, _, rfl⟩ c
    exact .inl (v2_in H x y d e z Q h1 h2 ef g)
theorem st_inA (c : CT X G W) (ha : SO X G W a oa) (hb : SO X G W b ob) (hm : behindInMarks .In b = false := by rfl) : ST X G W (.Compare a [.In] [b] pos) (mB (mOp [oa, ob] (dInA false))) := st_cmp (by rw [c.k]; exact op_in_seq.or (op_dIn (by have := c.un; omega))) v2_inA ha hb hm
theorem st_notInA (c : CT X G W) (ha : SO X G W a oa) (hb : SO X G W b ob) (hm : behindInMarks .NotIn b = false := by rfl) : ST X G W (.Compare a [.NotIn] [b] pos) (mB (mOp [oa, ob] (dInA true))) := st_cmp (by rw [c.k]; exact op_notIn_seq.or (op_dNotIn (by have := c.un; omega))) v2_inA ha hb hm
theorem se_inA (c : CT X G W) (ha : SO X G W a oa) (hb : SO X G W b ob) (hm : behindInMarks .In b = false := by rfl) : SE X G W (.Compare a [.In] [b] pos) (mOp [oa, ob] (dInA false)) := se_cmp (by rw [c.k]; exact op_in_seq.or (op_dIn (by have := c.un; omega))) v2_inA ha hb hm
theorem se_notInA (c : CT X G W) (ha : SO X G W a oa) (hb : SO X G W b ob) (hm : behindInMarks .NotIn b = false := by rfl) : SE X G W (.Compare a [.NotIn] [b] pos) (mOp [oa, ob] (dInA true)) := se_cmp (by rw [c.k]; exact op_notIn_seq.or (op_dNotIn (by have := c.un; omega))) v2_inA ha hb hm
/-- d[k] -/
def dGetD : List D → Option D
  | [.dic ks ds, dk] => (dKey dk).bind fun k => dGetK ks ds k
  | _ => none
theorem v2_getD : V2 G (fun x y H Q => ∃ a v, x = .ref a ∧ DGet H a y (some v) ∧ Q v H) dGetD := by
  intro H x y d e z Q h1 h2 ef g
  unfold dGetD at ef
  split at ef
  · rename_i ks ds dk q
    cases q
    rw [Option.bind_eq_some_iff] at ef
    obtain ⟨k, hk, e1⟩ := ef
    obtain ⟨a, us, rfl, ha, ln, rv⟩ := h1
    rw [h2.key hk]
    obtain ⟨u, hu, r⟩ := (getK_ok (k := k) (ks := ks) rv).1 _ e1
    exact ⟨a, u, rfl, hu ▸ DGet.k ha, g.val r⟩
  · cases ef
theorem se_dget (c : CT X G W) (ha : SO X G W a oa) (hb : SO X G W b ob) (hs : NoSl b := by exact fun _ _ => rfl) : SE X G W (.Subscript a b pos) (mOp [oa, ob] dGetD) :=
  pe_wk (pe_dget (by have := c.un; omega) ha hb hs) fun σ H Q q => mOp2_rd v2_getD q
end
end TV

/-! Tv16: slices; enumerate of a list or a tuple. -/
namespace TV
open PySem PySem.Spec PyProof.Rows L2

def cutD (xs : List D) (lo hi : Option Int) : List D := (xs.drop (HT.sIx xs.length 0 lo)).take (HT.sIx xs.length xs.length hi - HT.sIx xs.length 0 lo)
theorem RVs.cut {G : GG} [NoSlot G] {H : Hp} {ds : List D} {vs : List V} (r : RVs G H ds vs) (lo hi : Option Int) : RVs G H (cutD ds lo hi) (cutV vs lo hi) := by
  unfold cutD cutV
  rw [r.length]
  exact (r.drop _).take _
def dCut (lo hi : Option Int) : D → Option D
  | .tup ds => some (.tup (cutD ds lo hi))
  | .lst ds => some (.lst (cutD ds lo hi))
  | .frl ds => some (.lst (cutD ds lo hi))
  | _ => none
abbrev rSlA (K : PySem.W.Frag) : V → Option Int → Option Int → Hp → VK → Prop := fun x lo hi H Q => rSlF K x lo hi H Q ∨ rSlL K x lo hi H Q
theorem cut_ok {G : GG} [NoSlot G] {lo hi : Option Int} : V1 G (fun x H Q => rSlA G.K x lo hi H Q) (fun l => match l with | [d] => dCut lo hi d | _ => none) := by
  intro H x d z Q h ef g
  have ef : dCut lo hi d = some z := ef
  cases d with
  | tup ds =>
    cases ef
    obtain ⟨a, vs, rfl, s, r⟩ := h.tupOf
    refine .inl ⟨a, vs, rfl, s.sqt, fun w => ?_, g.tup (r.cut lo hi)⟩
    have e : cutD ds lo hi = ds := by
      unfold cutD
      rw [r.length, w.1, w.2, List.drop_zero, Nat.sub_zero, ← r.length, List.take_length]
    rw [e] at g
    exact g.val (.tup s r)
  | lst ds =>
    cases ef
    obtain ⟨a, vs, rfl, s, r⟩ := h.lstOf
    exact .inr ⟨a, vs, rfl, SqL.of s, g.lst (r.cut lo hi)⟩
  | frl ds =>
    cases ef
    obtain ⟨a, vs, rfl, s, r⟩ := h.frlOf
    exact .inr ⟨a, vs, rfl, s, g.lst (r.cut lo hi)⟩
  | _ => cases ef
def pInt : D → Bool
  | .int _ => true
  | _ => false
theorem met_int {G : GG} [NoSlot G] {x : V} {H : Hp} (m : Met G pInt x H) : ∃ i, x = .int i := by
  obtain ⟨d, e, rs⟩ := m
  cases d with
  | int i => exact ⟨i, rs.intOf⟩
  | _ => cases e
def dSl11 : List D → Option D
  | [d, .int i, .int j] => dCut (some i) (some j) d
  | _ => none
def dSl10 : List D → Option D
  | [d, .int i] => dCut (some i) none d
  | _ => none
def dSl01 : List D → Option D
  | [d, .int i] => dCut none (some i) d
  | _ => none
def dSl00 : List D → Option D
  | [d] => dCut none none d
  | _ => none
section
variable {X : Cx} {G : GG} [NoSlot G] {W : WX} {pos p2 : Pos} {e a b : Expr} {oe oa ob : Opd}
theorem sl_all : SlR X (rSlA X.K) := sl_tupF.or sl_list
theorem se_sl11 (c : CT X G W) (he : SO X G W e oe) (ha : SO X G W a oa) (hb : SO X G W b ob) (pa : oa.p = pInt) (pb : ob.p = pInt) : SE X G W (.Subscript e (.Slice (some a) (some b) none p2) pos) (mOp [oe, oa, ob] dSl11) :=
  pe_wk (pe_slice sl_all he (po_some ha) (po_some hb)) fun σ H Q q => by
    rw [← c.k]
    have k := mOp_rd (r := fun vs H Q => ∃ x i j, vs = [x, .int i, .int j] ∧ rSlA G.K x (some i) (some j) H Q) (fun H vs ds z Q ln rs ef g => by
        unfold dSl11 at ef
        split at ef
        · cases rs with
          | cons r1 rs =>
            cases rs with
            | cons r2 rs =>
              cases rs with
              | cons r3 rs =>
                cases rs
                rw [r2.intOf, r3.intOf]
                exact ⟨_, _, _, rfl, cut_ok H _ _ _ Q r1 ef g⟩
        · cases ef) q
    refine tO_mono k fun x H1 _ k => tO_mono k fun y H2 m k => ?_
    rw [pa] at m
    obtain ⟨i, rfl⟩ := met_int m
    refine ⟨i, rfl, tO_mono k fun y H3 m k => ?_⟩
    obtain ⟨x', i', j', e, k⟩ := k
    cases e
    exact ⟨_, rfl, k⟩
theorem se_sl10 (c : CT X G W) (he : SO X G W e oe) (ha : SO X G W a oa) (pa : oa.p = pInt) : SE X G W (.Subscript e (.Slice (some a) none none p2) pos) (mOp [oe, oa] dSl10) :=
  pe_wk (pe_slice sl_all he (po_some ha) po_none) fun σ H Q q => by
    rw [← c.k]
    have k := mOp_rd (r := fun vs H Q => ∃ x i, vs = [x, .int i] ∧ rSlA G.K x (some i) none H Q) (fun H vs ds z Q ln rs ef g => by
        unfold dSl10 at ef
        split at ef
        · cases rs with
          | cons r1 rs =>
            cases rs with
            | cons r2 rs =>
              cases rs
              rw [r2.intOf]
              exact ⟨_, _, rfl, cut_ok H _ _ _ Q r1 ef g⟩
        · cases ef) q
    refine tO_mono k fun x H1 _ k => tO_mono k fun y H2 m k => ?_
    obtain ⟨x', i', e, k⟩ := k
    cases e
    exact ⟨_, rfl, k⟩
theorem se_sl01 (c : CT X G W) (he : SO X G W e oe) (hb : SO X G W b ob) : SE X G W (.Subscript e (.Slice none (some b) none p2) pos) (mOp [oe, ob] dSl01) :=
  pe_wk (pe_slice sl_all he po_none (po_some hb)) fun σ H Q q => by
    rw [← c.k]
    have k := mOp_rd (r := fun vs H Q => ∃ x i, vs = [x, .int i] ∧ rSlA G.K x none (some i) H Q) (fun H vs ds z Q ln rs ef g => by
        unfold dSl01 at ef
        split at ef
        · cases rs with
          | cons r1 rs =>
            cases rs with
            | cons r2 rs =>
              cases rs
              rw [r2.intOf]
              exact ⟨_, _, rfl, cut_ok H _ _ _ Q r1 ef g⟩
        · cases ef) q
    refine tO_mono k fun x H1 _ k => tO_mono k fun y H2 m k => ?_
    obtain ⟨x', i', e, k⟩ := k
    cases e
    exact ⟨_, rfl, k⟩
theorem se_sl00 (c : CT X G W) (he : SO X G W e oe) : SE X G W (.Subscript e (.Slice none none none p2) pos) (mOp [oe] dSl00) :=
  pe_wk (pe_slice sl_all he po_none po_none) fun σ H Q q => by
    rw [← c.k]
    exact mOp1_rd (r := fun x H Q => rSlA G.K x none none H Q) (fun H x d z Q r ef g => cut_ok H _ _ _ Q r ef g) q
end
end TV

/-! Tv17: arguments: what is handed over, and what comes back. -/
namespace TV
open PySem PySem.Spec PyProof.Rows L2

theorem RE.nil {G : GG} [NoSlot G] {H : Hp} (p : G.pin H) : RE G [] [] H := ⟨rfl, (fun i d e => by cases e), (fun i j d e a h => by cases h), p, RE.noSpin⟩
theorem RE.cons {G : GG} [NoSlot G] {ρ : Env} {σ : L2.St} {H : Hp} {d : D} {v : V} (r : RE G ρ σ H) (h : RS G H d v) (n : ∀ a, v = .ref a → d.own = true → ¬ own ρ σ a) : RE G (some d :: ρ) (some v :: σ) H := by
  refine ⟨congrArg Nat.succ r.len, fun i x e => ?_, fun i j x y a e1 e2 o1 o2 s1 s2 => ?_, r.pin, RE.noSpin⟩
  · cases i with
    | zero => cases e; exact ⟨v, rfl, h⟩
    | succ i => exact r.val i x e
  · cases i with
    | zero =>
      cases j with
      | zero => rfl
      | succ j => cases e1; cases s1; exact absurd ⟨j, y, e2, o2, s2⟩ (n a rfl o1)
    | succ i =>
      cases j with
      | zero => cases e2; cases s2; exact absurd ⟨i, x, e1, o1, s1⟩ (n a rfl o2)
      | succ j => exact congrArg Nat.succ (r.sep i j x y a e1 e2 o1 o2 s1 s2)
theorem RE.tail {G : GG} [NoSlot G] {ρ : Env} {σ : L2.St} {H : Hp} {d : Option D} {v : Option V} (r : RE G (d :: ρ) (v :: σ) H) : RE G ρ σ H :=
  ⟨Nat.succ.inj r.len, fun i x e => r.val (i + 1) x e, fun i j x y a e1 e2 o1 o2 s1 s2 => Nat.succ.inj (r.sep (i + 1) (j + 1) x y a e1 e2 o1 o2 s1 s2), r.pin, RE.noSpin⟩
theorem own_cons {ρ : Env} {σ : L2.St} {d : Option D} {v : Option V} {a : Addr} (h : own (d :: ρ) (v :: σ) a) : (∃ x, d = some x ∧ x.own = true ∧ v = some (.ref a)) ∨ own ρ σ a := by
  obtain ⟨i, x, e1, e2, e3⟩ := h
  cases i with
  | zero => cases e1; cases e3; exact .inl ⟨x, rfl, e2, rfl⟩
  | succ i => exact .inr ⟨i, x, e1, e2, e3⟩
theorem own_tail {ρ : Env} {σ : L2.St} {d : Option D} {v : Option V} {a : Addr} (h : own ρ σ a) : own (d :: ρ) (v :: σ) a := by
  obtain ⟨i, x, e1, e2, e3⟩ := h
  exact ⟨i + 1, x, e1, e2, e3⟩
theorem own_nil {a : Addr} : ¬ own [] [] a := by
  rintro ⟨i, x, e, _⟩
  cases e

/-- the addresses of what is owned by no name among the arguments -/
def tA : List Opd → List (Option D) → List V → List Addr
  | .var _ _ :: os, _ :: xs, _ :: vs => tA os xs vs
  | .tmp _ _ :: os, some d :: xs, .ref a :: vs => if d.own = true then a :: tA os xs vs else tA os xs vs
  | .tmp _ _ :: os, _ :: xs, _ :: vs => tA os xs vs
  | _, _, _ => []
inductive AR (G : GG) (ρ : Env) (σ : L2.St) (H : Hp) (ρ' : Env) (H' : Hp) : List Opd → List (Option D) → List V → Prop
  | nil : AR G ρ σ H ρ' H' [] [] []
  | var {i : Nat} {p : D → Bool} {v : V} {os : List Opd} {xs : List (Option D)} {vs : List V} (s : σ[i]? = some (some v)) (r : AR G ρ σ H ρ' H' os xs vs) : AR G ρ σ H ρ' H' (.var i p :: os) (none :: xs) (v :: vs)
  | tmp {m : ME} {p : D → Bool} {d : D} {v : V} {os : List Opd} {xs : List (Option D)} {vs : List V} (q : Res G ρ σ H ρ' σ H' d v) (n : ∀ a, v = .ref a → d.own = true → a ∉ tA os xs vs) (r : AR G ρ σ H ρ' H' os xs vs) : AR G ρ σ H ρ' H' (.tmp m p :: os) (some d :: xs) (v :: vs)
theorem AR.ahead {G : GG} [NoSlot G] {ρ ρ1 ρ' : Env} {σ : L2.St} {H H1 H' : Hp} (f : Fr ρ σ H ρ1 σ H1) : ∀ {os : List Opd} {xs : List (Option D)} {vs : List V}, AR G ρ1 σ H1 ρ' H' os xs vs → AR G ρ σ H ρ' H' os xs vs
  | _, _, _, .nil => .nil
  | _, _, _, .var s r => .var s (r.ahead f)
  | _, _, _, .tmp q n r => .tmp (q.ahead f) n (r.ahead f)
theorem AR.tA {G : GG} [NoSlot G] {ρ ρ' : Env} {σ : L2.St} {H H' : Hp} : ∀ {os : List Opd} {xs : List (Option D)} {vs : List V}, AR G ρ σ H ρ' H' os xs vs → ∀ a, a ∈ TV.tA os xs vs → ¬ own ρ' σ a ∧ (H a = none ∨ own ρ σ a) ∧ ∃ o, H' a = some o
  | _, _, _, .nil, a, h => by cases h
  | _, _, _, .var s r, a, h => r.tA a h
  | _, _, _, .tmp (d := d) (v := v) q n r, a, h => by
    cases v with
    | ref b =>
      unfold TV.tA at h
      split at h
      · rename_i o
        rcases List.mem_cons.mp h with z | z
        · subst z
          obtain ⟨b, u, e, e2, _⟩ := q.1.at o
          cases e
          exact ⟨(q.2 _ rfl o).1, (q.2 _ rfl o).2, u, e2⟩
        · exact r.tA a z
      · exact r.tA a h
    | _ => exact r.tA a h
def postA (G : GG) (W : WX) (os : List Opd) (ρ : Env) (σ : L2.St) (H : Hp) (Q : List V → Hp → Prop) : R (List (Option D) × Env) → Prop
  | .ok (xs, ρ') => ∀ vs H', RE G ρ' σ H' → Fr ρ σ H ρ' σ H' → AR G ρ σ H ρ' H' os xs vs → Q vs H'
  | .exc c w ρ' => wexc G W [] ρ σ H c w ρ'
  | .stuck => False
theorem args_run {G : GG} [NoSlot G] {W : WX} {σ : L2.St} : ∀ {os : List Opd} {ρ : Env} {H : Hp} {Q : List V → Hp → Prop}, RE G ρ σ H → postA G W os ρ σ H Q (ev os ρ) → tOs G W os σ H Q
  | [], ρ, H, Q, r, h => h [] H r Fr.refl .nil
  | .var i p :: os, ρ, H, Q, r, h => by
    unfold ev at h
    split at h
    case h_2 => exact h.elim
    rename_i d0 e0
    unfold chk at h
    split at h
    case isFalse => exact h.elim
    rename_i hp
    obtain ⟨v, e, rs0⟩ := r.val i d0 e0
    refine ⟨v, e, ⟨d0, hp, rs0⟩, args_run (os := os) (ρ := ρ) r ?_⟩
    cases z : ev os ρ with
    | ok q =>
      rw [z] at h
      obtain ⟨xs, ρ'⟩ := q
      intro vs H' r' f q
      exact h (v :: vs) H' r' f (.var e q)
    | exc c w ρ' => rw [z] at h; exact h
    | stuck => rw [z] at h; exact h
  | .tmp m p :: os, ρ, H, Q, r, h => by
    refine ⟨ρ, r, ?_⟩
    unfold ev at h
    cases z : m ρ with
    | ok q =>
      rw [z] at h
      obtain ⟨d, ρ1⟩ := q
      have h : postA G W (.tmp m p :: os) ρ σ H Q (chk (p d) ((ev os ρ1).bind fun r => .ok (some d :: r.1, r.2))) := h
      unfold chk at h
      split at h
      case isFalse => exact h.elim
      rename_i hp
      intro v H1 r1 f1 q1
      refine ⟨⟨d, hp, q1.1⟩, args_run (os := os) (ρ := ρ1) r1 ?_⟩
      cases y : ev os ρ1 with
      | ok q =>
        rw [y] at h
        obtain ⟨xs, ρ2⟩ := q
        intro vs H2 r2 f2 q2
        refine h (v :: vs) H2 r2 (f1.trans f2) (.tmp (q1.later r1 f2) (fun a ea oa ha => ?_) (q2.ahead f1))
        obtain ⟨b, u, e, e2, _⟩ := q1.1.at oa
        rw [ea] at e
        cases e
        rcases (q2.tA a ha).2.1 with k | k
        · rw [e2] at k; cases k
        · exact (q1.2 a ea oa).1 k
      | exc c w ρ' => rw [y] at h; exact wexc.later (A := []) (B := []) h f1 SameBut.refl
      | stuck => rw [y] at h; exact h
    | exc c w ρ' => rw [z] at h; exact h
    | stuck => rw [z] at h; exact h

/-- the names hand over -/
def takeA : List Opd → List (Option D) → Env → Option (List D × Env)
  | [], [], ρ => some ([], ρ)
  | .var i _ :: os, _ :: xs, ρ => match ρ[i]? with
    | some (some d) => (takeA os xs (if d.own then ρ.set i none else ρ)).map fun p => (d :: p.1, p.2)
    | _ => none
  | .tmp _ _ :: os, some d :: xs, ρ => (takeA os xs ρ).map fun p => (d :: p.1, p.2)
  | _, _, _ => none
structure Taken (G : GG) (ρ : Env) (σ : L2.St) (H : Hp) (L : List Addr) (ds : List D) (vs : List V) (ρ2 : Env) : Prop where
  re : RE G ρ2 σ H
  args : RE G (ds.map some) (vs.map some) H
  sub : ∀ a, own ρ2 σ a → own ρ σ a
  from_ : ∀ a, own (ds.map some) (vs.map some) a → (own ρ σ a ∧ ¬ own ρ2 σ a) ∨ a ∈ L
theorem take_ok {G : GG} [NoSlot G] {ρ0 ρ' : Env} {σ : L2.St} {H H' : Hp} : ∀ {os : List Opd} {xs : List (Option D)} {vs : List V} {ρ ρ2 : Env} {ds : List D}, AR G ρ0 σ H ρ' H' os xs vs → RE G ρ σ H' → (∀ a, own ρ σ a → own ρ' σ a) → takeA os xs ρ = some (ds, ρ2) → Taken G ρ σ H' (tA os xs vs) ds vs ρ2
  | _, _, _, ρ, ρ2, ds, .nil, re, sub, e => by
    cases e
    exact ⟨re, RE.nil re.pin, fun a h => h, fun a h => absurd h own_nil⟩
  | _, _, _, ρ, ρ2, ds, .var (i := i) (v := v) (os := os) (xs := xs) (vs := vs) s r, re, sub, e => by
    unfold takeA at e
    split at e
    · rename_i d e0
      rw [Option.map_eq_some_iff] at e
      obtain ⟨⟨ds', ρ3⟩, e1, e2⟩ := e
      cases e2
      obtain ⟨v', s', rsd⟩ := re.val i d e0
      rw [s] at s'
      cases s'
      by_cases o : d.own = true
      · rw [if_pos o] at e1
        have T := take_ok r (re.drop i) (fun a h => sub a (own_drop h)) e1
        refine ⟨T.re, T.args.cons rsd fun a ea _ h => ?_, fun a h => own_drop (T.sub a h), fun a h => ?_⟩
        · subst ea
          rcases T.from_ a h with ⟨k, _⟩ | k
          · exact own_dropped re e0 o s k
          · exact (r.tA a k).1 (sub a ⟨i, d, e0, o, s⟩)
        · rcases own_cons h with ⟨x, ex, ox, ev⟩ | h
          · cases ex; cases ev
            exact .inl ⟨⟨i, d, e0, o, s⟩, fun k => own_dropped re e0 o s (T.sub a k)⟩
          · rcases T.from_ a h with ⟨k1, k2⟩ | k
            · exact .inl ⟨own_drop k1, k2⟩
            · exact .inr k
      · rw [if_neg o] at e1
        have T := take_ok r re sub e1
        refine ⟨T.re, T.args.cons rsd fun a ea oo => absurd oo o, T.sub, fun a h => ?_⟩
        rcases own_cons h with ⟨x, ex, ox, ev⟩ | h
        · cases ex
          exact absurd ox o
        · exact T.from_ a h
    · cases e
  | _, _, _, ρ, ρ2, ds, .tmp (d := d) (v := v) (os := os) (xs := xs) (vs := vs) q n r, re, sub, e => by
    unfold takeA at e
    rw [Option.map_eq_some_iff] at e
    obtain ⟨⟨ds', ρ3⟩, e1, e2⟩ := e
    cases e2
    have T := take_ok r re sub e1
    have up : ∀ a, a ∈ tA os xs vs → a ∈ tA (.tmp ‹ME› ‹D → Bool› :: os) (some d :: xs) (v :: vs) := fun a h => by
      cases v with
      | ref b =>
        unfold tA
        split
        · exact List.mem_cons_of_mem _ h
        · exact h
      | _ => exact h
    refine ⟨T.re, T.args.cons q.1 fun a ea oa h => ?_, T.sub, fun a h => ?_⟩
    · rcases T.from_ a h with ⟨k, _⟩ | k
      · exact (q.2 a ea oa).1 (sub a k)
      · exact n a ea oa k
    · rcases own_cons h with ⟨x, ex, ox, ev⟩ | h
      · cases ex; cases ev
        refine .inr ?_
        unfold tA
        rw [if_pos ox]
        exact List.mem_cons_self
      · rcases T.from_ a h with k | k
        · exact .inl k
        · exact .inr (up a k)
end TV

/-! Tv18: calls of defs of the text. -/
namespace TV
open PySem PySem.Spec PyProof.Rows L2

/-- a def by values: from the parameters' slots to the result and what the slots then have -/
abbrev FV := Env → R (D × Env)
def postF (G : GG) (τ : Env) (σ : L2.St) (H : Hp) (Q : VK) (E : XK) : R (D × Env) → Prop
  | .ok (d, τ') => ∀ v H', RE G τ' σ H' → Fr τ σ H τ' σ H' → Res G τ σ H τ' σ H' d v → Q v H'
  | .exc c w τ' => ∀ (H' : Hp) (dd : Addr) (fs : List (Str × V)) (v : V), RE G τ' σ H' → Fr τ σ H τ' σ H' → H' dd = some (.xd fs) → fs.lookup ("what" : Str) = some v → RV G H' w v → E (.ref (G.cl c)) (some dd) H'
  | .stuck => False
def spV (G : GG) (n : Nat) (F : FV) : Sp := fun vs H Q E => vs.length = n ∧ ∃ τ, RE G τ (vs.map some) H ∧ postF G τ (vs.map some) H Q E (F τ)
/-- of a def that lets nothing out -/
def spV0 (G : GG) (n : Nat) (F : FV) : Sp := fun vs H Q _ => spV G n F vs H Q E0

/-! ### the body -/
/-- what the parameters' slots have in the end; those of A are forgotten -/
def outE (A : List Nat) (n : Nat) (ρ : Env) : Env := (List.range n).map fun i => if A.contains i = true then none else (ρ[i]?).join
def padE (N : Nat) (τ : Env) : Env := τ ++ List.replicate (N - τ.length) none
def kBody (A : List Nat) (n : Nat) : Out × Env → R (D × Env)
  | (.rt d, ρ) => .ok (d, outE A n ρ)
  | (.nx, ρ) => .ok (.non, outE A n ρ)
  | _ => .stuck
def fDef (A : List Nat) (n : Nat) : R (Out × Env) → R (D × Env)
  | .ok p => kBody A n p
  | .exc c w ρ => .exc c w (outE A n ρ)
  | .stuck => .stuck
/-- a def whose body does m, of N slots, n of them parameters -/
def mDef (N n : Nat) (A : List Nat) (m : MS) : FV := fun τ => fDef A n (m (padE N τ))
/-- what may leave a def -/
abbrev WD (E : XK) : WX := fun cls d _ H => E cls d H
theorem outE_get {A : List Nat} {d : D} {n : Nat} {ρ : Env} {i : Nat} (h : (outE A n ρ)[i]? = some (some d)) : ρ[i]? = some (some d) ∧ i ∉ A := by
  unfold outE at h
  rw [List.getElem?_map, Option.map_eq_some_iff] at h
  obtain ⟨k, e, h⟩ := h
  have hk : k = i := by
    by_cases c : i < n
    · rw [List.getElem?_range c] at e
      exact (Option.some.inj e).symm
    · rw [List.getElem?_eq_none (by rw [List.length_range]; omega)] at e
      cases e
  subst hk
  split at h
  · cases h
  · rename_i c
    refine ⟨?_, fun z => c (List.contains_iff_mem.mpr z)⟩
    cases q : ρ[k]? with
    | none => rw [q] at h; cases h
    | some o => rw [q] at h; cases o with
      | none => cases h
      | some d' => cases h; rfl
theorem outE_len {A : List Nat} {n : Nat} {ρ : Env} : (outE A n ρ).length = n := by
  unfold outE
  rw [List.length_map, List.length_range]
theorem padE_get {N : Nat} {τ : Env} {i : Nat} {d : D} (h : (padE N τ)[i]? = some (some d)) : τ[i]? = some (some d) := by
  unfold padE at h
  by_cases c : i < τ.length
  · rwa [List.getElem?_append_left c] at h
  · rw [List.getElem?_append_right (by omega), List.getElem?_replicate] at h
    split at h <;> cases h
theorem start_get {N : List Str} {vs : List V} {i : Nat} {v : V} : (L2.start N vs)[i]? = some (some v) ↔ (vs.map some)[i]? = some (some v) := by
  unfold L2.start
  by_cases c : i < (vs.map some).length
  · rw [List.getElem?_append_left c]
  · rw [List.getElem?_append_right (by omega), List.getElem?_replicate]
    constructor
    · intro h; split at h <;> cases h
    · intro h
      rw [List.getElem?_eq_none (by omega)] at h
      cases h
theorem RE.pad {G : GG} [NoSlot G] {τ : Env} {vs : List V} {H : Hp} {N : List Str} (r : RE G τ (vs.map some) H) : RE G (padE N.length τ) (L2.start N vs) H := by
  have hl := r.len
  rw [List.length_map] at hl
  refine ⟨?_, fun i d e => ?_, fun i j d e a h1 h2 o1 o2 s1 s2 => r.sep i j d e a (padE_get h1) (padE_get h2) o1 o2 (start_get.mp s1) (start_get.mp s2), r.pin, RE.noSpin⟩
  · unfold padE L2.start
    rw [List.length_append, List.length_append, List.length_map, List.length_replicate, List.length_replicate, hl]
  · obtain ⟨v, e1, q⟩ := r.val i d (padE_get e)
    exact ⟨v, start_get.mpr e1, q⟩
theorem own_pad {τ : Env} {vs : List V} {N : List Str} {a : Addr} (h : own (padE N.length τ) (L2.start N vs) a) : own τ (vs.map some) a := by
  obtain ⟨i, d, e1, e2, e3⟩ := h
  exact ⟨i, d, padE_get e1, e2, start_get.mp e3⟩
theorem own_pad' {τ : Env} {vs : List V} {N : List Str} {a : Addr} (h : own τ (vs.map some) a) : own (padE N.length τ) (L2.start N vs) a := by
  obtain ⟨i, d, e1, e2, e3⟩ := h
  refine ⟨i, d, ?_, e2, start_get.mpr e3⟩
  unfold padE
  rw [List.getElem?_append_left (List.getElem?_eq_some_iff.mp e1).1]
  exact e1
/-- a body keeps the def's promise -/
theorem body_ok {G : GG} [NoSlot G] {X : Cx} {N : List Str} {n : Nat} {A : List Nat} {m : MS} {body : List Stmt} {vs : List V} {H : Hp} {Q : VK} {E : XK} (h : SSs X G (WD E) body A m) (hsp : spV G n (mDef N.length n A m) vs H Q E) (hn : n ≤ N.length) :
    ∃ t, PSs X body t ∧ t { nx := fun _ H' => Q .non H', rt := Q } (L2.start N vs) H := by
  refine ⟨_, h, ?_⟩
  obtain ⟨hl, τ, re, q⟩ := hsp
  refine ⟨padE N.length τ, re.pad, ?_⟩
  have lt : τ.length = n := by rw [re.len, List.length_map, hl]
  have q : postF G τ (vs.map some) H Q E (fDef A n (m (padE N.length τ))) := q
  have fin : ∀ {ρ' : Env} {σ' : L2.St} {H' : Hp}, RE G ρ' σ' H' → Fr (padE N.length τ) (L2.start N vs) H ρ' σ' H' → SameBut A (L2.start N vs) σ' →
      RE G (outE A n ρ') (vs.map some) H' ∧ (∀ a, own (outE A n ρ') (vs.map some) a → own ρ' σ' a) ∧ Fr τ (vs.map some) H (outE A n ρ') (vs.map some) H' := fun {ρ' σ' H'} r' f' s' => by
    have get : ∀ {i : Nat} {d : D}, (outE A n ρ')[i]? = some (some d) → ρ'[i]? = some (some d) ∧ i ∉ A := fun {i d} e => outE_get e
    have sl : ∀ {i : Nat} {v : V}, i ∉ A → (σ'[i]? = some (some v) ↔ (vs.map some)[i]? = some (some v)) := fun {i v} ni => by rw [s' i ni]; exact start_get
    have ow : ∀ a, own (outE A n ρ') (vs.map some) a → own ρ' σ' a := fun a ⟨i, d, e1, e2, e3⟩ => by
      obtain ⟨g1, g2⟩ := get e1
      exact ⟨i, d, g1, e2, (sl g2).mpr e3⟩
    refine ⟨⟨?_, fun i d e => ?_, fun i j d e a h1 h2 o1 o2 s1 s2 => ?_, r'.pin, RE.noSpin⟩, ow, fun b o hb nb => ?_⟩
    · rw [outE_len, List.length_map, hl]
    · obtain ⟨g1, g2⟩ := get e
      obtain ⟨v, e1, rs⟩ := r'.val i d g1
      exact ⟨v, (sl g2).mp e1, rs⟩
    · obtain ⟨g1, g2⟩ := get h1
      obtain ⟨g3, g4⟩ := get h2
      exact r'.sep i j d e a g1 g3 o1 o2 ((sl g2).mpr s1) ((sl g4).mpr s2)
    · obtain ⟨z1, z2⟩ := f' b o hb fun z => nb (own_pad z)
      exact ⟨z1, fun z => z2 (ow b z)⟩
  cases e : m (padE N.length τ) with
  | exc c w ρ' =>
    rw [e] at q
    intro σ' H' dd fs v r' f' s' e1 e2 rv
    obtain ⟨g1, _, g3⟩ := fin r' f' s'
    exact q H' dd fs v g1 g3 e1 e2 rv
  | stuck => rw [e] at q; exact q.elim
  | ok p =>
    rw [e] at q
    obtain ⟨o, ρ'⟩ := p
    cases o with
    | nx =>
      intro σ' H' r' f' s'
      obtain ⟨g1, _, g3⟩ := fin r' f' s'
      exact q .non H' g1 g3 (Res.of_rv .non)
    | rt d =>
      intro v σ' H' r' f' s' z
      obtain ⟨g1, g2, g3⟩ := fin r' f' s'
      refine q v H' g1 g3 ⟨z.1, fun a ea oa => ⟨fun k => (z.2 a ea oa).1 (g2 a k), ?_⟩⟩
      exact (z.2 a ea oa).2.imp id own_pad
    | bk => exact q.elim
    | ct => exact q.elim
end TV

/-! Tv19: calls. -/
namespace TV
open PySem PySem.Spec PyProof.Rows L2

/-- what was lent comes back -/
def wbE : List Opd → List D → Env → Env → Env
  | .var i _ :: os, d :: ds, some e :: outs, ρ => wbE os ds outs (if d.own = true ∧ e.own = true then ρ.set i (some e) else ρ)
  | _ :: os, _ :: ds, _ :: outs, ρ => wbE os ds outs ρ
  | _, _, _, ρ => ρ
theorem wbE_tmp {m : ME} {p : D → Bool} {os : List Opd} {d : D} {ds : List D} {o : Option D} {outs ρ : Env} : wbE (.tmp m p :: os) (d :: ds) (o :: outs) ρ = wbE os ds outs ρ := by cases o <;> rfl
theorem set_same {σ : L2.St} {i : Nat} {v : V} (h : σ[i]? = some (some v)) : σ.set i (some v) = σ := by
  refine List.ext_getElem? fun j => ?_
  by_cases c : i = j
  · subst c
    rw [List.getElem?_set_self (List.getElem?_eq_some_iff.mp h).1, h]
  · rw [List.getElem?_set_ne c]
theorem back_ok {G : GG} [NoSlot G] {ρ0 ρ' : Env} {σ : L2.St} {H H' H2 : Hp} : ∀ {os : List Opd} {xs : List (Option D)} {vs : List V} {ds : List D} {ρ outs : Env}, AR G ρ0 σ H ρ' H' os xs vs → RE G ρ σ H2 → RE G outs (vs.map some) H2 → (∀ a, own ρ σ a → ¬ own outs (vs.map some) a) →
    RE G (wbE os ds outs ρ) σ H2 ∧ ∀ a, own (wbE os ds outs ρ) σ a → own ρ σ a ∨ own outs (vs.map some) a
  | _, _, _, ds, ρ, outs, .nil, re, ro, dj => by
    unfold wbE
    exact ⟨re, fun a h => .inl h⟩
  | _, _, _, ds, ρ, outs, .tmp (v := v) (vs := vs) q n r, re, ro, dj => by
    cases ds with
    | nil => exact ⟨re, fun a h => .inl h⟩
    | cons d ds =>
      cases outs with
      | nil => exact ⟨re, fun a h => .inl h⟩
      | cons o outs =>
        have k := back_ok (ds := ds) r re (RE.tail ro) fun a h z => dj a h (own_tail z)
        rw [wbE_tmp]
        exact ⟨k.1, fun a h => (k.2 a h).imp id own_tail⟩
  | _, _, _, ds, ρ, outs, .var (i := i) (v := v) (vs := vs) s r, re, ro, dj => by
    cases ds with
    | nil => exact ⟨re, fun a h => .inl h⟩
    | cons d ds =>
      cases outs with
      | nil => exact ⟨re, fun a h => .inl h⟩
      | cons o outs =>
        cases o with
        | none =>
          have k := back_ok (ds := ds) r re (RE.tail ro) fun a h z => dj a h (own_tail z)
          exact ⟨k.1, fun a h => (k.2 a h).imp id own_tail⟩
        | some e =>
          unfold wbE
          by_cases c : d.own = true ∧ e.own = true
          · rw [if_pos c]
            obtain ⟨v', e1, rs⟩ := ro.val 0 e rfl
            cases e1
            have q : Res G ρ σ (fun _ => none) ρ σ H2 e v := ⟨rs, fun a ea oa => ⟨fun z => dj a z ⟨0, e, rfl, oa, by rw [ea]; rfl⟩, .inl rfl⟩⟩
            · have r1 := re.setN q i
              rw [set_same s] at r1
              have ow : ∀ a, own (ρ.set i (some e)) σ a → (v = .ref a ∧ e.own = true) ∨ own ρ σ a := fun a h => own_set re.len (by rw [set_same s]; exact h)
              have k := back_ok (ds := ds) r r1 (RE.tail ro) fun a h z => by
                rcases ow a h with ⟨ev, oe⟩ | h
                · obtain ⟨j, x, x1, x2, x3⟩ := z
                  have := ro.sep 0 (j + 1) e x a rfl x1 oe x2 (by rw [ev]; rfl) x3
                  cases this
                · exact dj a h (own_tail z)
              refine ⟨k.1, fun a h => ?_⟩
              rcases k.2 a h with h | h
              · rcases ow a h with ⟨ev, oe⟩ | h
                · exact .inr ⟨0, e, rfl, oe, by rw [ev]; rfl⟩
                · exact .inl h
              · exact .inr (own_tail h)
          · rw [if_neg c]
            have k := back_ok (ds := ds) r re (RE.tail ro) fun a h z => dj a h (own_tail z)
            exact ⟨k.1, fun a h => (k.2 a h).imp id own_tail⟩
theorem takeA_len : ∀ {os : List Opd} {xs : List (Option D)} {ρ ρ2 : Env} {ds : List D}, takeA os xs ρ = some (ds, ρ2) → ds.length = os.length
  | [], [], _, _, _, e => by cases e; rfl
  | [], _ :: _, _, _, _, e => by cases e
  | .var i _ :: os, [], _, _, _, e => by cases e
  | .tmp _ _ :: os, [], _, _, _, e => by cases e
  | .tmp _ _ :: os, none :: _, _, _, _, e => by cases e
  | .var i _ :: os, _ :: xs, ρ, _, _, e => by
    unfold takeA at e
    split at e
    · rw [Option.map_eq_some_iff] at e
      obtain ⟨⟨ds, ρ3⟩, e1, e2⟩ := e
      cases e2
      exact congrArg Nat.succ (takeA_len e1)
    · cases e
  | .tmp _ _ :: os, some d :: xs, ρ, _, _, e => by
    unfold takeA at e
    rw [Option.map_eq_some_iff] at e
    obtain ⟨⟨ds, ρ3⟩, e1, e2⟩ := e
    cases e2
    exact congrArg Nat.succ (takeA_len e1)
/-- around a call: the names gave ds, the call made outs of them -/
theorem around_call {G : GG} [NoSlot G] {ρ ρ' ρ2 : Env} {σ : L2.St} {H H' H2 : Hp} {os : List Opd} {xs : List (Option D)} {vs ws : List V} {ds : List D} {τ τ' : Env} {d : D} {v : V}
    (f : Fr ρ σ H ρ' σ H') (re : RE G ρ' σ H') (ar : AR G ρ σ H ρ' H' os xs vs) (T : Taken G ρ' σ H' (tA os xs vs) ds vs ρ2) (rt : RE G τ (ws.map some) H') (st : ∀ a, own τ (ws.map some) a → own (ds.map some) (vs.map some) a)
    (r2 : RE G τ' (ws.map some) H2) (f2 : Fr τ (ws.map some) H' τ' (ws.map some) H2) (q : Res G τ (ws.map some) H' τ' (ws.map some) H2 d v) :
    RE G ρ2 σ H2 ∧ (∀ a, own ρ2 σ a → ¬ own τ' (ws.map some) a) ∧ ∀ ρ3, (∀ a, own ρ3 σ a → own ρ2 σ a ∨ own τ' (ws.map some) a) → Fr ρ σ H ρ3 σ H2 ∧ ∀ a, v = .ref a → d.own = true → ¬ own ρ3 σ a ∧ (H a = none ∨ own ρ σ a) := by
  have apart : ∀ a, own ρ2 σ a → ¬ own τ (ws.map some) a := fun a h z => by
    rcases T.from_ a (st a z) with ⟨_, k⟩ | k
    · exact k h
    · exact (ar.tA a k).1 (T.sub a h)
  have re2 : RE G ρ2 σ H2 := ⟨T.re.len, fun i x e => by
    obtain ⟨u, e1, rs⟩ := T.re.val i x e
    exact ⟨u, e1, rs.keep (f2.fix rt) fun a o ea oa hb => (f2 a o hb (apart a ⟨i, x, e, oa, by rw [← ea]; exact e1⟩)).1⟩, T.re.sep, G.pinOk _ _ (f2.fix rt) T.re.pin, RE.noSpin⟩
  have dj : ∀ a, own ρ2 σ a → ¬ own τ' (ws.map some) a := fun a h => by
    obtain ⟨u, hu, _⟩ := T.re.there h
    exact (f2 a u hu (apart a h)).2
  -- what was not owned ahead of the arguments
  have back : ∀ b, own ρ' σ b ∨ H' b = none → H b = none ∨ own ρ σ b := fun b h => by
    by_cases c : own ρ σ b
    · exact .inr c
    · cases z : H b with
      | none => exact .inl rfl
      | some o =>
        obtain ⟨f1, f3⟩ := f b o z c
        rcases h with h | h
        · exact absurd h f3
        · rw [f1] at h; cases h
  have back2 : ∀ b, own τ (ws.map some) b → H b = none ∨ own ρ σ b := fun b h => by
    rcases T.from_ b (st b h) with ⟨k, _⟩ | k
    · exact back b (.inl k)
    · exact (ar.tA b k).2.1
  refine ⟨re2, dj, fun ρ3 h3 => ⟨fun b o hb nb => ?_, fun a ea oa => ⟨fun k => ?_, ?_⟩⟩⟩
  · obtain ⟨g1, g2⟩ := f b o hb nb
    have nt : ¬ own τ (ws.map some) b := fun z => by
      rcases back2 b z with k | k
      · rw [hb] at k; cases k
      · exact nb k
    obtain ⟨g3, g4⟩ := f2 b o g1 nt
    refine ⟨g3, fun z => ?_⟩
    rcases h3 b z with k | k
    · exact g2 (T.sub b k)
    · exact g4 k
  · rcases h3 a k with k | k
    · obtain ⟨u, hu, _⟩ := T.re.there k
      rcases (q.2 a ea oa).2 with z | z
      · rw [hu] at z; cases z
      · exact apart a k z
    · exact (q.2 a ea oa).1 k
  · rcases (q.2 a ea oa).2 with z | z
    · exact back a (.inr z)
    · exact back2 a z

/-! ### f(e, ..) -/
def kCall (os : List Opd) (F : FV) : List (Option D) × Env → R (D × Env) := fun p => match takeA os p.1 p.2 with
  | some (ds, ρ) => match F (ds.map some) with
    | .ok (d, outs) => .ok (d, wbE os ds outs ρ)
    | .exc c w outs => .exc c w (wbE os ds outs ρ)
    | .stuck => .stuck
  | none => .stuck
def mCall (os : List Opd) (F : FV) : ME := fun ρ => (ev os ρ).bind (kCall os F)
theorem rdCall {G : GG} [NoSlot G] {W : WX} {os : List Opd} {F : FV} {σ : L2.St} {H : Hp} {Q : VK} (q : rdE G W (mCall os F) σ H Q) : tOs G W os σ H fun vs H1 => spV G os.length F vs H1 Q (WE W σ) := by
  obtain ⟨ρ, re, q⟩ := q
  refine args_run re ?_
  have q : postE G W ρ σ H Q ((ev os ρ).bind (kCall os F)) := q
  cases e : ev os ρ with
  | exc c w ρ' => rw [e] at q; exact q
  | stuck => rw [e] at q; exact q
  | ok p =>
    rw [e] at q
    obtain ⟨xs, ρ'⟩ := p
    intro vs H' r' f' ar
    have q : postE G W ρ σ H Q (match takeA os xs ρ' with
      | some (ds, ρ) => match F (ds.map some) with
        | .ok (d, outs) => .ok (d, wbE os ds outs ρ)
        | .exc c w outs => .exc c w (wbE os ds outs ρ)
        | .stuck => .stuck
      | none => .stuck) := q
    cases e2 : takeA os xs ρ' with
    | none => rw [e2] at q; exact q.elim
    | some p2 =>
      rw [e2] at q
      obtain ⟨ds, ρ2⟩ := p2
      have q : postE G W ρ σ H Q (match F (ds.map some) with
        | .ok (d, outs) => .ok (d, wbE os ds outs ρ2)
        | .exc c w outs => .exc c w (wbE os ds outs ρ2)
        | .stuck => .stuck) := q
      have T := take_ok ar r' (fun a h => h) e2
      refine ⟨?_, ds.map some, T.args, ?_⟩
      · have l1 := T.args.len
        rw [List.length_map, List.length_map] at l1
        rw [← l1]
        exact takeA_len e2
      · cases e3 : F (ds.map some) with
        | exc c w outs =>
          rw [e3] at q
          intro H2 dd fs v r2 f2 y1 y2 rv
          obtain ⟨a1, a2, a3⟩ := around_call f' r' ar T T.args (fun a h => h) r2 f2 (Res.of_rv (v := .non) .non)
          obtain ⟨b1, b2⟩ := back_ok (ds := ds) ar a1 r2 a2
          exact q σ H2 dd fs v b1 (a3 _ b2).1 SameBut.refl y1 y2 rv
        | stuck => rw [e3] at q; exact q.elim
        | ok p3 =>
          rw [e3] at q
          obtain ⟨d, outs⟩ := p3
          intro v H2 r2 f2 rs
          obtain ⟨a1, a2, a3⟩ := around_call f' r' ar T T.args (fun a h => h) r2 f2 rs
          obtain ⟨b1, b2⟩ := back_ok (ds := ds) ar a1 r2 a2
          obtain ⟨c1, c2⟩ := a3 _ b2
          exact q v H2 b1 c1 ⟨rs.1, c2⟩
/-! ### with defaults and keywords: what was lent does not come back -/
/-- the items at the places ix -/
def permL {α : Type} (ix : List Nat) (l : List α) : List α := ix.filterMap fun i => l[i]?
theorem permL_map {α β : Type} (f : α → β) (l : List α) : ∀ ix : List Nat, permL ix (l.map f) = (permL ix l).map f
  | [] => rfl
  | i :: ix => by
    have ih := permL_map f l ix
    unfold permL at ih ⊢
    rw [List.filterMap_cons, List.filterMap_cons, List.getElem?_map]
    cases l[i]? with
    | none => exact ih
    | some a => rw [Option.map_some, List.map_cons, ih]
theorem permL_vals {vs : List V} {us : List Value} (r : Vals vs us) : ∀ ix : List Nat, Vals (permL ix vs) (permL ix us)
  | [] => .nil
  | i :: ix => by
    have ih := permL_vals r ix
    unfold permL at ih ⊢
    rw [List.filterMap_cons, List.filterMap_cons]
    cases e : vs[i]? with
    | none =>
      have : us[i]? = none := by
        rw [List.getElem?_eq_none_iff] at e ⊢
        rw [← r.length]
        exact e
      rw [this]
      exact ih
    | some v =>
      obtain ⟨u, hu, ru⟩ := r.get e
      rw [hu]
      exact .cons ru ih
theorem RE.consO {G : GG} [NoSlot G] {ρ : Env} {σ : L2.St} {H : Hp} {o : Option D} {x : Option V} (r : RE G ρ σ H) (h : ∀ d, o = some d → ∃ v, x = some v ∧ RS G H d v ∧ ∀ a, v = .ref a → d.own = true → ¬ own ρ σ a) : RE G (o :: ρ) (x :: σ) H := by
  cases o with
  | some d =>
    obtain ⟨v, rfl, rs, n⟩ := h d rfl
    exact r.cons rs n
  | none =>
    refine ⟨congrArg Nat.succ r.len, fun i d e => ?_, fun i j d e a e1 e2 o1 o2 s1 s2 => ?_, r.pin, RE.noSpin⟩
    · cases i with
      | zero => cases e
      | succ i => exact r.val i d e
    · cases i with
      | zero => cases e1
      | succ i =>
        cases j with
        | zero => cases e2
        | succ j => exact congrArg Nat.succ (r.sep i j d e a e1 e2 o1 o2 s1 s2)
theorem own_perm {ρ : Env} {σ : L2.St} {a : Addr} (l : ρ.length = σ.length) : ∀ {ix : List Nat}, own (permL ix ρ) (permL ix σ) a → ∃ (j : Nat) (d : D), j ∈ ix ∧ ρ[j]? = some (some d) ∧ d.own = true ∧ σ[j]? = some (some (.ref a))
  | [], h => absurd h own_nil
  | i :: ix, h => by
    unfold permL at h
    rw [List.filterMap_cons, List.filterMap_cons] at h
    cases e : ρ[i]? with
    | none =>
      have : σ[i]? = none := by
        rw [List.getElem?_eq_none_iff] at e ⊢
        rw [← l]
        exact e
      rw [e, this] at h
      obtain ⟨j, d, h1, h2⟩ := own_perm l (ix := ix) h
      exact ⟨j, d, List.mem_cons_of_mem _ h1, h2⟩
    | some o =>
      obtain ⟨x, hx⟩ : ∃ x, σ[i]? = some x := by
        have := (List.getElem?_eq_some_iff.mp e).1
        exact ⟨_, List.getElem?_eq_getElem (by rw [← l]; exact this)⟩
      rw [e, hx] at h
      rcases own_cons h with ⟨d, ed, od, ev⟩ | h
      · exact ⟨i, d, List.mem_cons_self, by rw [e, ed], od, by rw [hx, ev]⟩
      · obtain ⟨j, d, h1, h2⟩ := own_perm l (ix := ix) h
        exact ⟨j, d, List.mem_cons_of_mem _ h1, h2⟩
theorem RE.perm {G : GG} [NoSlot G] {ρ : Env} {σ : L2.St} {H : Hp} (r : RE G ρ σ H) : ∀ {ix : List Nat}, ix.Nodup → RE G (permL ix ρ) (permL ix σ) H
  | [], _ => RE.nil r.pin
  | i :: ix, nd => by
    have ih := RE.perm r (List.nodup_cons.mp nd).2
    have ow := fun a => own_perm (ix := ix) (a := a) r.len
    unfold permL at ih ow ⊢
    rw [List.filterMap_cons, List.filterMap_cons]
    cases e : ρ[i]? with
    | none =>
      have : σ[i]? = none := by
        rw [List.getElem?_eq_none_iff] at e ⊢
        rw [← r.len]
        exact e
      rw [this]
      exact ih
    | some o =>
      obtain ⟨x, hx⟩ : ∃ x, σ[i]? = some x := by
        have := (List.getElem?_eq_some_iff.mp e).1
        exact ⟨_, List.getElem?_eq_getElem (by rw [← r.len]; exact this)⟩
      rw [hx]
      refine ih.consO fun d ed => ?_
      subst ed
      obtain ⟨v, ev, rs⟩ := r.val i d e
      rw [hx] at ev
      cases ev
      refine ⟨v, rfl, rs, fun a ea oa h => ?_⟩
      obtain ⟨j, x, h1, h2, h3, h4⟩ := ow a h
      have := r.sep i j d x a e h2 oa h3 (by rw [hx, ea]) h4
      subst this
      exact (List.nodup_cons.mp nd).1 h1
theorem RE.of_rvs {G : GG} [NoSlot G] {H : Hp} (p : G.pin H) : ∀ {ds : List D} {vs : List V}, RVs G H ds vs → RE G (ds.map some) (vs.map some) H ∧ ∀ a, ¬ own (ds.map some) (vs.map some) a
  | _, _, .nil => ⟨RE.nil p, fun a h => own_nil h⟩
  | _, _, .cons r t => by
    have ih := RE.of_rvs p t
    refine ⟨ih.1.cons r.rs fun a _ o => (by rw [r.plain] at o; cases o), fun a k => ?_⟩
    rcases own_cons k with ⟨x, ex, ox, _⟩ | k
    · cases ex
      rw [r.plain] at ox
      cases ox
    · exact ih.2 a k
theorem RE.app_rv {G : GG} [NoSlot G] {H : Hp} {dfl : List D} {dvs : List V} (h : RVs G H dfl dvs) : ∀ {ds : List D} {vs : List V}, RE G (ds.map some) (vs.map some) H → RE G ((ds ++ dfl).map some) ((vs ++ dvs).map some) H ∧ ∀ a, own ((ds ++ dfl).map some) ((vs ++ dvs).map some) a → own (ds.map some) (vs.map some) a
  | [], [], r => by
    rw [List.nil_append, List.nil_append]
    exact ⟨(RE.of_rvs r.pin h).1, fun a k => absurd k ((RE.of_rvs r.pin h).2 a)⟩
  | [], _ :: _, r => by have := r.len; simp at this
  | _ :: _, [], r => by have := r.len; simp at this
  | d :: ds, v :: vs, r => by
    have ih := RE.app_rv h (RE.tail r)
    obtain ⟨v', e, rs⟩ := r.val 0 d rfl
    cases e
    refine ⟨ih.1.cons rs fun a ea oa k => ?_, fun a k => ?_⟩
    · obtain ⟨j, x, x1, x2, x3⟩ := ih.2 a k
      have := r.sep 0 (j + 1) d x a rfl x1 oa x2 (by rw [ea]; rfl) x3
      cases this
    · rcases own_cons k with ⟨x, ex, ox, ev⟩ | k
      · cases ex; cases ev
        exact ⟨0, d, rfl, ox, rfl⟩
      · exact own_tail (ih.2 a k)
def kCallP (os : List Opd) (dfl : List D) (ix : List Nat) (F : FV) : List (Option D) × Env → R (D × Env) := fun p => match takeA os p.1 p.2 with
  | some (ds, ρ) => match F (permL ix ((ds ++ dfl).map some)) with
    | .ok (d, _) => .ok (d, ρ)
    | .exc c w _ => .exc c w ρ
    | .stuck => .stuck
  | none => .stuck
def mCallP (os : List Opd) (dfl : List D) (ix : List Nat) (F : FV) : ME := fun ρ => (ev os ρ).bind (kCallP os dfl ix F)
theorem permL_len {α : Type} {l : List α} : ∀ {ix : List Nat}, (∀ i ∈ ix, i < l.length) → (permL ix l).length = ix.length
  | [], _ => rfl
  | i :: ix, h => by
    have ih := permL_len (ix := ix) fun j hj => h j (List.mem_cons_of_mem _ hj)
    unfold permL at ih ⊢
    rw [List.filterMap_cons, List.getElem?_eq_getElem (h i List.mem_cons_self)]
    exact congrArg Nat.succ ih
theorem rdCallP {G : GG} [NoSlot G] {W : WX} {os : List Opd} {dfl : List D} {dvs : List V} {ix : List Nat} {F : FV} {σ : L2.St} {H : Hp} {Q : VK} (hd : ∀ H, RVs G H dfl dvs) (nd : ix.Nodup) (hx : ∀ i ∈ ix, i < os.length + dfl.length) (q : rdE G W (mCallP os dfl ix F) σ H Q) :
    tOs G W os σ H fun vs H1 => spV G ix.length F (permL ix (vs ++ dvs)) H1 Q (WE W σ) := by
  obtain ⟨ρ, re, q⟩ := q
  refine args_run re ?_
  have q : postE G W ρ σ H Q ((ev os ρ).bind (kCallP os dfl ix F)) := q
  cases e : ev os ρ with
  | exc c w ρ' => rw [e] at q; exact q
  | stuck => rw [e] at q; exact q
  | ok p =>
    rw [e] at q
    obtain ⟨xs, ρ'⟩ := p
    intro vs H' r' f' ar
    have q : postE G W ρ σ H Q (match takeA os xs ρ' with
      | some (ds, ρ) => match F (permL ix ((ds ++ dfl).map some)) with
        | .ok (d, _) => .ok (d, ρ)
        | .exc c w _ => .exc c w ρ
        | .stuck => .stuck
      | none => .stuck) := q
    cases e2 : takeA os xs ρ' with
    | none => rw [e2] at q; exact q.elim
    | some p2 =>
      rw [e2] at q
      obtain ⟨ds, ρ2⟩ := p2
      have q : postE G W ρ σ H Q (match F (permL ix ((ds ++ dfl).map some)) with
        | .ok (d, _) => .ok (d, ρ2)
        | .exc c w _ => .exc c w ρ2
        | .stuck => .stuck) := q
      have T := take_ok ar r' (fun a h => h) e2
      have l1 := T.args.len
      rw [List.length_map, List.length_map, takeA_len e2] at l1
      obtain ⟨ra, oa⟩ := RE.app_rv (hd H') T.args
      have rp := RE.perm ra nd
      rw [permL_map some (vs ++ dvs)] at rp
      refine ⟨permL_len fun i hi => ?_, _, rp, ?_⟩
      · rw [List.length_append, ← l1, ← (hd H').length]
        exact hx i hi
      · have sub : ∀ a, own (permL ix ((ds ++ dfl).map some)) ((permL ix (vs ++ dvs)).map some) a → own (ds.map some) (vs.map some) a := fun a h => by
          rw [← permL_map some (vs ++ dvs)] at h
          obtain ⟨j, x, _, h2, h3, h4⟩ := own_perm ra.len h
          exact oa a ⟨j, x, h2, h3, h4⟩
        cases e3 : F (permL ix ((ds ++ dfl).map some)) with
        | exc c w outs =>
          rw [e3] at q
          intro H2 dd fs v r2 f2 y1 y2 rv
          obtain ⟨a1, a2, a3⟩ := around_call f' r' ar T rp sub r2 f2 (Res.of_rv (v := .non) .non)
          exact q σ H2 dd fs v a1 (a3 ρ2 fun a h => .inl h).1 SameBut.refl y1 y2 rv
        | stuck => rw [e3] at q; exact q.elim
        | ok p3 =>
          rw [e3] at q
          obtain ⟨d, outs⟩ := p3
          intro v H2 r2 f2 rs
          obtain ⟨a1, a2, a3⟩ := around_call f' r' ar T rp sub r2 f2 rs
          obtain ⟨c1, c2⟩ := a3 ρ2 fun a h => .inl h
          exact q v H2 a1 c1 ⟨rs.1, c2⟩
theorem tOs_app {G : GG} [NoSlot G] {W : WX} {os2 : List Opd} {σ : L2.St} : ∀ {os : List Opd} {H : Hp} {Q : List V → Hp → Prop}, tOs G W (os ++ os2) σ H Q → tOs G W os σ H fun vs H1 => vs.length = os.length ∧ tOs G W os2 σ H1 fun zs H2 => Q (vs ++ zs) H2
  | [], _, _, h => ⟨rfl, h⟩
  | _ :: os, _, _, h => tO_mono h fun _ _ _ q => tOs_mono (os := os) (tOs_app (os := os) q) fun _ _ z => ⟨congrArg Nat.succ z.1, z.2⟩
theorem tOs_len {G : GG} [NoSlot G] {W : WX} {σ : L2.St} {os : List Opd} {H : Hp} {Q : List V → Hp → Prop} (h : tOs G W os σ H Q) : tOs G W os σ H fun vs H1 => vs.length = os.length ∧ Q vs H1 := by
  have k := tOs_app (os := os) (os2 := []) (by rw [List.append_nil]; exact h)
  exact tOs_mono k fun vs H1 z => ⟨z.1, by have y : Q (vs ++ []) H1 := z.2; rw [List.append_nil] at y; exact y⟩
section
variable {X : Cx} {CX : CXT} {k n : Nat} {f : Addr} {fd : FuncData} {ps ks : List Str} {sp : Sp} {E : L2.St → XK} {x : Str} {p pos : Pos} {e : Expr} {es : List Expr} {kws : List Keyword} {t tk : TA} {g : List Value → List Value → List Value} {gV : List V → List V → List V}
theorem run_fnNS {pins : List (Addr × Obj)} {σ : L2.St} {H : Hp} {s : Shared} {Q : VK} {us ws : List Value} {vs zs : List V} (F : FnOk X.prog X.w X.K X.mg X.base CX k f fd ps sp) (hr : Room k X.A) (hb : KBn X.K fd ps n ks g gV) (hx : PassesAt CX X σ (E σ))
    (I : Inv X pins σ H s) (r : Vals vs us) (rz : Vals zs ws) (l1 : vs.length = n) (l2 : zs.length = ks.length) (h : sp (gV vs zs) H Q (E σ)) : wpAny (model X.prog X.w) X.A (call (.ref f) us (ks.zip ws)) (EP X pins σ Q) X.xe s := by
  have r2 := hb.rel r rz
  refine wpAny_call (codeAny_mono (F.run X.A X.stack s H ⟨us, ks.zip ws⟩ (g us ws) (gV vs zs) Q (E σ) hr I.env0 (hb.to s us ws I.kIn (r.length.symm.trans l1) (rz.length.symm.trans l2)) r2 h) fun r s' hq => ?_)
  cases r with
  | error e => exact hx pins H s e s' I hq
  | ok fl =>
    cases fl with
    | ret u => exact I.after hq
    | next => exact False.elim hq
    | brk => exact False.elim hq
    | cont => exact False.elim hq
def tCallNS (n m : Nat) (sp : Sp) (gV : List V → List V → List V) (E : L2.St → XK) (t tk : TA) : TE := fun σ H Q => t σ H fun vs H1 => tk σ H1 fun zs H2 => vs.length = n ∧ zs.length = m ∧ sp (gV vs zs) H2 Q (E σ)
theorem pe_callNS (F : FnOk X.prog X.w X.K X.mg X.base CX k f fd ps sp) (hr : Room k X.A) (hg : Gl X x) (hm : X.mg x = some (.ref f)) (hk : PySem.W.keepIn X.K (.ref f) = true) (hb : KBn X.K fd ps n ks g gV) (hx : ∀ σ, PassesAt CX X σ (E σ))
    (ha : PA X (e :: es) t) (hkw : PK X kws tk) (hall : (backToKw pos (keywordEach kws X.env)).all (·.1.isSome) = true := by rfl) (hks : (backToKw pos (keywordEach kws X.env)).filterMap (·.1) = ks := by rfl)
    (hdb : (x == ("__debug__" : Str)) = false := by decide) (he : starEach (e :: es) X.env = (false, eval e X.env) :: starEach es X.env := by rfl)
    (hpl : ((backTo pos (starEach (e :: es) X.env)).any (·.1) || (backToKw pos (keywordEach kws X.env)).any (·.1.isNone)) = false := by rfl) :
    PE X (.Call (.Name x p) (e :: es) kws pos) (tCallNS n ks.length sp gV E t tk) := by
  refine ⟨fun pins s σ H Q I h => ?_⟩
  refine wpAny_Call_Name_kw (ld_glob I hg hm ?_ hdb)
  refine PySem.W.callWith_KW (h₀ := X.base) I.ok.mod.kin hk hall (thn (ha.run pos pins s σ H _ I h) fun us s1 ⟨vs, H1, I1, r, q⟩ => ?_) hpl he
  refine thn (hkw.run pos pins s1 σ H1 _ I1 q) fun ws s2 ⟨zs, H2, I2, rz, l1, l2, q2⟩ => ⟨I2.kIn, ?_⟩
  rw [hks]
  exact run_fnNS F hr hb (hx σ) I2 r rz l1 l2 q2
end
section
variable {X : Cx} {G : GG} [NoSlot G] {W : WX} {k : Nat} {f : Addr} {fd : FuncData} {ps ks : List Str} {x : Str} {p pos : Pos} {e : Expr} {es : List Expr} {kws : List Keyword} {os os2 : List Opd} {F : FV} {dfl : List D} {dvs : List V} {dd : List Value} {ix : List Nat}
/-- f(e, ..), all by place -/
theorem se_call (Fn : FnOk X.prog X.w X.K X.mg X.base (L2.CX X.prog X.w) k f fd ps (spV G os.length F)) (tk : Takes X W) (hr : Room k X.A) (hg : Gl X x) (hm : X.mg x = some (.ref f)) (hk : PySem.W.keepIn X.K (.ref f) = true) (hb : Binds X.K fd ps [])
    (ha : SOs X G W (e :: es) os) (hdb : (x == ("__debug__" : Str)) = false := by decide) (he : starEach (e :: es) X.env = (false, eval e X.env) :: starEach es X.env := by rfl) (hpl : (backTo pos (starEach es X.env)).any (·.1) = false := by rfl) :
    SE X G W (.Call (.Name x p) (e :: es) [] pos) (mCall os F) := pe_wk (pe_callS Fn hr hg hm hk hb (fun σ => passAt tk σ) ha hdb he hpl) fun σ H Q q => rdCall q
/-- f(e, .., k = v, ..), some by default -/
theorem se_callN (Fn : FnOk X.prog X.w X.K X.mg X.base (L2.CX X.prog X.w) k f fd ps (spV G ix.length F)) (tk : Takes X W) (hr : Room k X.A) (hg : Gl X x) (hm : X.mg x = some (.ref f)) (hk : PySem.W.keepIn X.K (.ref f) = true)
    (hb : KBn X.K fd ps os.length ks (fun us ws => permL ix (us ++ ws ++ dd)) (fun vs zs => permL ix (vs ++ zs ++ dvs))) (hd : ∀ H, RVs G H dfl dvs) (nd : ix.Nodup) (hx : ∀ i ∈ ix, i < (os ++ os2).length + dfl.length) (hl : os2.length = ks.length)
    (ha : SOs X G W (e :: es) os) (hkw : PK X kws (tOs G W os2)) (hall : (backToKw pos (keywordEach kws X.env)).all (·.1.isSome) = true := by rfl) (hks : (backToKw pos (keywordEach kws X.env)).filterMap (·.1) = ks := by rfl)
    (hdb : (x == ("__debug__" : Str)) = false := by decide) (he : starEach (e :: es) X.env = (false, eval e X.env) :: starEach es X.env := by rfl)
    (hpl : ((backTo pos (starEach (e :: es) X.env)).any (·.1) || (backToKw pos (keywordEach kws X.env)).any (·.1.isNone)) = false := by rfl) :
    SE X G W (.Call (.Name x p) (e :: es) kws pos) (mCallP (os ++ os2) dfl ix F) := pe_wk (pe_callNS Fn hr hg hm hk hb (fun σ => passAt tk σ) ha hkw hall hks hdb he hpl) fun σ H Q q =>
    tOs_mono (tOs_app (rdCallP hd nd hx q)) fun vs H1 z => tOs_mono (tOs_len z.2) fun zs H2 y => ⟨z.1, y.1.trans hl, y.2⟩
/-- f(k = v, ..) -/
theorem se_callN0 (Fn : FnOk X.prog X.w X.K X.mg X.base (L2.CX X.prog X.w) k f fd ps (spV G ix.length F)) (tk : Takes X W) (hr : Room k X.A) (hg : Gl X x) (hm : X.mg x = some (.ref f)) (hk : PySem.W.keepIn X.K (.ref f) = true)
    (hb : KBn X.K fd ps 0 ks (fun us ws => permL ix (us ++ ws ++ dd)) (fun vs zs => permL ix (vs ++ zs ++ dvs))) (hd : ∀ H, RVs G H dfl dvs) (nd : ix.Nodup) (hx : ∀ i ∈ ix, i < os2.length + dfl.length) (hl : os2.length = ks.length)
    (hkw : PK X kws (tOs G W os2)) (hall : (backToKw pos (keywordEach kws X.env)).all (·.1.isSome) = true := by rfl) (hks : (backToKw pos (keywordEach kws X.env)).filterMap (·.1) = ks := by rfl)
    (hdb : (x == ("__debug__" : Str)) = false := by decide) (hpl : ((backTo pos (starEach [] X.env)).any (·.1) || (backToKw pos (keywordEach kws X.env)).any (·.1.isNone)) = false := by rfl) :
    SE X G W (.Call (.Name x p) [] kws pos) (mCallP os2 dfl ix F) := by
  refine ⟨fun pins s σ H Q I h => ?_⟩
  refine wpAny_Call_Name_kw (ld_glob I hg hm ?_ hdb)
  refine PySem.W.callWith_KW0 (h₀ := X.base) I.ok.mod.kin hk hall ?_ hpl
  refine thn (hkw.run pos pins s σ H _ I (tOs_len (rdCallP hd nd hx h))) fun ws s2 ⟨zs, H2, I2, rz, l2, q2⟩ => ⟨I2.kIn, ?_⟩
  rw [hks]
  exact run_fnNS (vs := []) (E := WE W) Fn hr hb (passAt tk σ) I2 .nil rz rfl (l2.trans hl) q2
theorem pk_nilO : PK X [] (tOs G W []) := pk_nil
theorem pk_consO {nm : Option Str} {kpos : Pos} {o : Opd} (ha : SO X G W e o) (hr : PK X kws (tOs G W os)) : PK X (⟨nm, e, kpos⟩ :: kws) (tOs G W (o :: os)) := pk_cons ha hr
end
end TV

/-! Tv20: enumerate of a list or a tuple. -/
namespace TV
open PySem PySem.Spec PyProof.Rows L2

set_option maxHeartbeats 1000000 in
theorem meets_enum_one {v : Value} {o : Obj} {H : Heap → Prop} (B : Begins v o H) :
    Meets (Builtin.«enumerate.__new__» ⟨[.type "enumerate", v], []⟩) (fun _ R s => H s.heap ∧
      R (.ok (.ret (.ref (s.heap.push o).objs.size))) { s with heap := (s.heap.push o).push { cls := .type "enumerate", data := .fields #[.none, .bool false, .ref s.heap.objs.size, rawInt 0, .none, .none] } }) :=
  .of_wp fun prog w A R s h => by
    obtain ⟨hp, g, d, tk, os⟩ := s; obtain ⟨h1, h⟩ := h
    have hsub := sub_enumerate
    have q1 : ∀ {A' : Around} {E : Value → Shared → Prop} {Q : Value → Shared → Prop}, Q (.ref hp.objs.size) ⟨hp.push o, g, d, tk, os⟩ → wpAny (model prog w) A' (pyIter v) Q E ⟨hp, g, d, tk, os⟩ :=
      fun q => B.iter prog w _ _ ⟨hp, g, d, tk, os⟩ _ h1 q
    wp_walk using q1
    refine wpAny_stack_any fun st => wpAny_pure ?_
    split
    · rename_i c _ _ _ _ _
      cases (c == Value.type "enumerate")
      · wp_walk using q1
        exact ⟨_, rfl, h⟩
      · wp_walk using q1
        exact ⟨_, rfl, h⟩
    · wp_walk using q1
      exact ⟨_, rfl, h⟩
theorem enum_one {prog : Program} {w : World} {A : Around} {E : Value → Shared → Prop} {s : Shared} {v : Value} {o : Obj} {H : Heap → Prop} {Q : Value → Shared → Prop} (B : Begins v o H) (h1 : H s.heap)
    (h : ∀ h', IsEnum h' (s.heap.objs.size + 1) s.heap.objs.size 0 .none → h'.get? s.heap.objs.size = some o → h'.objs.size = s.heap.objs.size + 2 →
      (∀ b o, s.heap.get? b = some o → h'.get? b = some o) → Q (.ref (s.heap.objs.size + 1)) { s with heap := h' }) :
    wpAny (model prog w) A (call (.type "enumerate") [v]) Q E s := by
  refine callType_new F.called_enumerate (by decide) (F.typeCall_enumerate_1 _) (F.newCall_enumerate_1 _) (fun obj => F.args_object_init_2 obj _) F.entry_enumerate_new (meets_enum_one B) ⟨h1, ?_⟩
  have hz : (s.heap.push o).objs.size = s.heap.objs.size + 1 := Heap.size_push ..
  show _ ∧ _
  rw [hz]
  have he : IsEnum ((s.heap.push o).push { cls := .type "enumerate", data := .fields #[.none, .bool false, .ref s.heap.objs.size, rawInt 0, .none, .none] }) (s.heap.objs.size + 1) s.heap.objs.size 0 .none := by
    have := Heap.get?_push_size (s.heap.push o) (o := { cls := .type "enumerate", data := .fields #[.none, .bool false, .ref s.heap.objs.size, rawInt 0, .none, .none] }) rfl
    rw [hz] at this; exact this
  refine ⟨⟨_, he, rfl⟩, h _ he (Heap.get?_push_of_some _ (Heap.get?_push_size _ B.free)) (by rw [Heap.size_push, hz]) fun b o x => Heap.get?_push_of_some _ (Heap.get?_push_of_some _ x)⟩
theorem wpAny_pyNext_enum_endT {prog : Program} {w : World} {A : Around} {E : Value → Shared → Prop} {s : Shared} {e it t : Addr} {i : Nat} {items : Array Value} {old : Value} {Q : Option Value → Shared → Prop} (hh : A.handled = none)
    (he : IsEnum s.heap e it i old) (hit : s.heap.IsTupleIter it t i) (hl : s.heap.IsTuple t items) (hx : items[i]? = none)
    (hQ : ∀ h', Heap.ExtBut it s.heap h' → Q none { s with heap := h' }) : wpAny (model prog w) A (pyNext (.ref e)) Q E s := by
  have ty : s.TypeIs (.ref e) "enumerate" := ⟨_, he, rfl⟩
  unfold pyNext
  refine wpAny_bind (wpAny_attempt (wpAny_callSpecial?_slot (name := Str.ofString "__next__") ty F.slot_enumerate_next (wpAny_call_entry F.slot_enumerate_next ty F.entry_enumerate_next ?_ (F.args_enumerate_next_1 _))))
  show wpAny _ _ (field (.ref e) 2 >>= _) _ _ s
  refine wpAny_bind (wpAny_field he rfl (x := .ref it) rfl ?_)
  refine wpAny_bind (wpAny_nextOf_tuple_end (by exact hh) hit hl hx fun h2 x he2 hx2 => ?_)
  obtain ⟨o, ho, hc⟩ := hx2
  refine wpAny_bind (wpAny_isInstance (T := "StopIteration") (b := true) ⟨o, ho, hc⟩ isSubtype_stop ?_)
  exact wpAny_pure (hQ _ he2)
/-- the tuple at a, each item in a new pair with its place -/
def ItEn (K : PySem.W.Frag) (a : Addr) : It where
  go := fun n H => ∃ (us : List V) (u : V), SqT K H a us ∧ us[n]? = some u
  yld := fun n H r H2 => ∃ p u, r = .ref p ∧ H p = none ∧ H2 = upd H p (.tup [.int (n : Nat), u]) ∧ ∀ us, SqT K H a us → us[n]? = some u
  stop := fun n H => ∃ us : List V, SqT K H a us ∧ us.length ≤ n
theorem turn_en {P : Program} {w : World} {K : PySem.W.Frag} {elts : List Expr} {kk : Nat} {tp : Pos} (a e it : Addr) :
    Turn P w K (.Tuple elts kk tp) (ItEn K a) [e, it] e (fun n h => (∃ old, IsEnum h e it ((n : Nat) : Int) old) ∧ h.IsTupleIter it a n ∧ e ≠ it) where
  mem := List.mem_cons_self
  obj := fun n h st b hb => by
    obtain ⟨⟨old, he⟩, ⟨o, ho, hc, hd⟩, _⟩ := st
    rcases List.mem_cons.mp hb with z | z
    · rw [z]
      exact ⟨_, he, fun v q => nomatch q⟩
    · rw [List.mem_singleton.mp z]
      exact ⟨o, ho, fun v q => by rw [hd] at q; cases q⟩
  keep := fun n h h2 st k => by
    obtain ⟨⟨old, he⟩, hi, hne⟩ := st
    exact ⟨⟨old, k e List.mem_cons_self _ he⟩, hi.at fun o q => k it (List.mem_cons_of_mem _ List.mem_cons_self) o q, hne⟩
  item := by
    intro X hP hw hK hc n pins s σ H E I hf st hg
    subst hP hw hK
    obtain ⟨⟨old, he⟩, hit, hne⟩ := st
    obtain ⟨us, u, hq, hu⟩ := hg
    obtain ⟨its, rv, p, hz⟩ := I.tuple hq
    obtain ⟨y, hy, ry⟩ := rv.get hu
    have ht : s.heap.IsTuple a its.toArray := p
    have hai : a ≠ it := fun z => by
      obtain ⟨o1, g1, c1, _⟩ := ht
      obtain ⟨o2, g2, c2, _⟩ := id hit
      rw [z, g2] at g1
      cases g1
      rw [c2] at c1
      injection c1 with q
      exact absurd q (by decide)
    have hea : e ∉ [it, a] := fun z => by
      rcases List.mem_cons.mp z with z | z
      · exact hne z
      · obtain ⟨o1, g1, c1, _⟩ := ht
        have g2 : s.heap.get? e = _ := he
        rw [List.mem_singleton.mp z, g1] at g2
        cases g2
        injection c1 with q
        exact absurd q (by decide)
    have hlt : n < its.toArray.size := by
      rw [List.size_toArray]
      exact (List.getElem?_eq_some_iff.mp hy).1
    have he0 : e < s.heap.objs.size := Heap.lt_size he
    have hi0 : it < s.heap.objs.size := by
      obtain ⟨o2, g2, _⟩ := id hit
      exact Heap.lt_size g2
    refine wpAny_pyNext_enum_itemC (Draws.tuple (by exact I.ok.hd hc) it a hai its.toArray) he ⟨hit, ht⟩ hlt hne hea fun x h2 tk hx ho hs2 hT hsz hk => ?_
    have ex : x = y := by
      rw [List.getElem?_toArray, hy] at hx
      exact (Option.some.inj hx).symm
    subst ex
    refine ⟨_, rfl, wpAny_letOwnedTupleGo_enum (s := { s with heap := h2, toks := tk + 1 }) ho fun h3 he3 sb => ?_⟩
    have hT3 : h3.get? s.heap.objs.size = some { cls := .type "tuple", data := .seq #[.int n tk, x] } := (sb.2 _ (Nat.ne_of_gt he0)).trans hT
    have made : ObjOk X.prog X.w (upd H s.heap.objs.size (.tup [.int (n : Nat), u])) h3 s.heap.objs.size (.tup [.int (n : Nat), u]) :=
      ⟨by show 2 ≤ sizeLine; decide, [.int n tk, x], .cons ⟨_, rfl⟩ (.cons ry .nil), ⟨_, hT3, rfl, _, rfl⟩⟩
    have I3 : Inv X pins σ (upd H s.heap.objs.size (.tup [.int (n : Nat), u])) { s with heap := h3, toks := tk + 1 } :=
      I.turnedNew (ch := [e, it]) (fun b o nb q => (sb.2 b fun z => nb (by rw [z]; exact List.mem_cons_self)).trans (hk b o (fun z => nb (by rw [z]; exact List.mem_cons_self)) (fun z => nb (by rw [z]; exact List.mem_cons_of_mem _ List.mem_cons_self)) q)) hf (Nat.le_refl _) made
    refine ⟨.ref s.heap.objs.size, _, I3, rfl, ⟨_, u, rfl, I.hok.fresh (Nat.le_refl _), rfl, fun ys q => by rw [I.tuple_inj q hq]; exact hu⟩, ⟨⟨x, ?_⟩, hs2.1.at fun o q => (sb.2 it (Ne.symm hne)).trans q, hne⟩, fun b hb => ?_⟩
    · have en : ((n + 1 : Nat) : Int) = (n : Int) + 1 := by omega
      rw [en]
      exact he3
    · have hlb : b < s.heap.objs.size := by
        rcases List.mem_cons.mp hb with z | z
        · rw [z]; exact he0
        · rw [List.mem_singleton.mp z]; exact hi0
      rw [upd_ne (Nat.ne_of_lt hlb)]
      exact (hf b hb).1
  done := by
    intro X hP hw hK hc n pins s σ H E I hf st hg
    subst hP hw hK
    obtain ⟨⟨old, he⟩, hit, hne⟩ := st
    obtain ⟨us, hq, hu⟩ := hg
    obtain ⟨its, rv, p, hz⟩ := I.tuple hq
    have ht : s.heap.IsTuple a its.toArray := p
    obtain ⟨f0, f1, f2, f3, f4, f5⟩ := hf it (List.mem_cons_of_mem _ List.mem_cons_self)
    have hl := rv.length
    exact wpAny_pyNext_enum_endT (I.ok.hd hc) he hit ht (by rw [List.getElem?_toArray]; exact List.getElem?_eq_none (by omega)) fun h2 eb => ⟨rfl, I.turned (t' := s.toks) (fun b o hb q => eb b o hb q) f0 f1 f3 f4 f5⟩
  self := fun A n s Q E st h => by
    obtain ⟨⟨_, he⟩, _⟩ := st
    exact wpAny_pyIter_enum he h

def enD : Nat → List D → List D
  | _, [] => []
  | i, d :: ds => .tup [.int (i : Nat), d] :: enD (i + 1) ds
theorem enD_len : ∀ {ds : List D} {i : Nat}, (enD i ds).length = ds.length
  | [], _ => rfl
  | _ :: ds, i => congrArg Nat.succ (enD_len (ds := ds))
theorem enD_get {d : D} : ∀ {ds : List D} {i j : Nat}, (enD i ds)[j]? = some d → ∃ x, ds[j]? = some x ∧ d = .tup [.int ((i + j : Nat)), x]
  | [], _, _, h => by cases h
  | x :: ds, i, 0, h => by cases h; exact ⟨x, rfl, rfl⟩
  | x :: ds, i, j + 1, h => by
    obtain ⟨y, h1, h2⟩ := enD_get (ds := ds) (i := i + 1) (j := j) h
    exact ⟨y, h1, by rw [h2]; congr 4; omega⟩
theorem itis_en_yld {G : GG} [NoSlot G] {H H' : Hp} {p : Addr} {n : Nat} {u : V} {d x : D} {ds : List D} (hp : H p = none) (e : H' = upd H p (.tup [.int (n : Nat), u])) (hd : (enD 0 ds)[n]? = some d) (hx : ds[n]? = some x) (r : RV G H x u) : Same H H' ∧ Y2 G H' d (.ref p) := by
  subst e
  have sm : Same H (upd H p (.tup [.int (n : Nat), u])) := fun b o hb => by
    rw [upd_ne (fun z => by subst z; rw [hp] at hb; cases hb)]
    exact hb
  obtain ⟨y, h1, rfl⟩ := enD_get hd
  rw [hx] at h1
  cases h1
  rw [Nat.zero_add]
  exact ⟨sm, _, p, _, rfl, rfl, SqT.of upd_same, .cons (.int _) (.cons (r.mono fun b o h _ => sm b o h) .nil)⟩
theorem itis_enl {G : GG} [NoSlot G] {a : Addr} {vs : List V} {ds : List D} : ItIs G (Ite G.K a) (Y2 G) (enD 0 ds) (Sls G a vs ds) where
  stay := fun _ _ _ _ _ _ s re f => s.stay re f
  off := fun _ _ _ _ s1 h _ _ _ _ _ s hu fu => s1.off h s hu fu
  go := fun ρ σ H j s h => by
    rw [enD_len] at h
    obtain ⟨v, e, _⟩ := s.1.get (List.getElem?_eq_getElem h)
    exact ⟨vs, v, s.sql, e⟩
  stop := fun ρ σ H j s h => ⟨vs, s.sql, by rw [← s.1.length, ← enD_len (i := 0)]; exact h⟩
  yld := fun ρ σ H j x H' d s re y e => by
    obtain ⟨p, u, rfl, hp, eh, y⟩ := y
    obtain ⟨x, hx, _⟩ := enD_get e
    obtain ⟨v, e1, r⟩ := s.1.get hx
    have := y vs s.sql
    rw [e1] at this
    cases this
    exact itis_en_yld hp eh e hx r
theorem itis_ent {G : GG} [NoSlot G] {a : Addr} {vs : List V} {ds : List D} : ItIs G (ItEn G.K a) (Y2 G) (enD 0 ds) (Slt G a vs ds) where
  stay := fun _ _ _ _ _ _ s re f => s.stay re f
  off := fun _ _ _ _ _ _ _ _ _ _ _ s hu fu => s.off hu fu
  go := fun ρ σ H j s h => by
    rw [enD_len] at h
    obtain ⟨v, e, _⟩ := s.1.get (List.getElem?_eq_getElem h)
    exact ⟨vs, v, s.2.sqt, e⟩
  stop := fun ρ σ H j s h => ⟨vs, s.2.sqt, by rw [← s.1.length, ← enD_len (i := 0)]; exact h⟩
  yld := fun ρ σ H j x H' d s re y e => by
    obtain ⟨p, u, rfl, hp, eh, y⟩ := y
    obtain ⟨x, hx, _⟩ := enD_get e
    obtain ⟨v, e1, r⟩ := s.1.get hx
    have := y vs s.2.sqt
    rw [e1] at this
    cases this
    exact itis_en_yld hp eh e hx r
def iEnA (K : PySem.W.Frag) (ta : TA) : TI := fun σ H R => ta σ H fun vs H1 => ∃ a, vs = [.ref a] ∧ (((∃ xs, SqL K H1 a xs) ∧ R (Ite K a) H1) ∨ ((∃ xs, SqT K H1 a xs) ∧ R (ItEn K a) H1))
theorem pi_enA {X : Cx} {e : Expr} {ta : TA} {p pos tpos : Pos} {elts : List Expr} {kk : Nat} (hg : Gl X "enumerate") (hm : X.mg "enumerate" = none) (ha : PA X [e] ta) (hs : starEach [e] X.env = [(false, eval e X.env)] := by rfl) :
    PI X (.Tuple elts kk tpos) (.Call (.Name "enumerate" p) [e] [] pos) (iEnA X.K ta) := by
  refine ⟨fun pins s σ H R I h => ?_⟩
  refine Call_ (ld_blt I hg hm boot_enumerate (PyProof.Rows.callWith_type1 (thn (ha.run pos pins s σ H _ I h) fun us s1 ⟨vs, H1, I1, r1, q1⟩ => ?_) hs rfl))
  obtain ⟨a, ex, q⟩ := q1
  subst ex
  cases r1 with
  | cons r rr =>
    cases rr
    cases r
    have fp : ∀ b ∈ [s1.heap.objs.size + 1, s1.heap.objs.size], FpOk X pins H1 b := fun b hb => by
      have hle : s1.heap.objs.size ≤ b := by
        rcases List.mem_cons.mp hb with z | z
        · rw [z]; exact Nat.le_succ _
        · rw [List.mem_singleton.mp z]; exact Nat.le_refl _
      exact I1.fpOk hle (I1.hok.fresh hle)
    rcases q with ⟨⟨xs, hq⟩, q⟩ | ⟨⟨xs, hq⟩, q⟩
    · obtain ⟨its, rv, pl, hz⟩ := I1.list hq
      refine enum_one (begins_list a its.toArray) pl.isList fun h2 he ho hsz hk => wpAny_pyIter_enum he ?_
      have I2 : Inv X pins σ H1 { s1 with heap := h2 } := I1.kept (t' := s1.toks) hk
      exact ⟨s1.heap.objs.size + 1, [s1.heap.objs.size + 1, s1.heap.objs.size], _, _, H1, rfl, I2, turn_enum a (s1.heap.objs.size + 1) s1.heap.objs.size, ⟨⟨.none, he⟩, ⟨_, ho, rfl, rfl⟩, Nat.succ_ne_self _⟩, fp, q⟩
    · obtain ⟨its, rv, pl, hz⟩ := I1.tuple hq
      refine enum_one (begins_tuple a its.toArray) (by exact pl) fun h2 he ho hsz hk => wpAny_pyIter_enum he ?_
      have I2 : Inv X pins σ H1 { s1 with heap := h2 } := I1.kept (t' := s1.toks) hk
      exact ⟨s1.heap.objs.size + 1, [s1.heap.objs.size + 1, s1.heap.objs.size], _, _, H1, rfl, I2, turn_en a (s1.heap.objs.size + 1) s1.heap.objs.size, ⟨⟨.none, he⟩, ⟨_, ho, rfl, rfl⟩, Nat.succ_ne_self _⟩, fp, q⟩
def dEnum (d : D) : Option (List D) := d.seq.map (enD 0)
theorem rdEnum {G : GG} [NoSlot G] {W : WX} {m : ME} {σ : L2.St} {H : Hp} {R : It → Hp → Prop} (q : rdI G W (Y2 G) (mI1 m dEnum) σ H R) : iEnA G.K (tCons (rdE G W m) tNil) σ H R := by
  obtain ⟨ρ, re, q⟩ := q
  refine ⟨ρ, re, ?_⟩
  have q : postI G W (Y2 G) ρ σ H R ((m ρ).bind (kSeqI dEnum)) := q
  cases e : m ρ with
  | exc c w ρ' => rw [e] at q; exact q
  | stuck => rw [e] at q; exact q
  | ok p =>
    rw [e] at q
    obtain ⟨d, ρ1⟩ := p
    intro v H1 r1 f1 s
    have q : postI G W (Y2 G) ρ σ H R (match dEnum d with | some ds => .ok (ds, ρ1) | none => .stuck) := q
    cases e2 : dEnum d with
    | none => rw [e2] at q; exact q.elim
    | some es =>
      rw [e2] at q
      have q3 : ∀ J H1 S, RE G ρ1 σ H1 → Fr ρ σ H ρ1 σ H1 → ItIs G J (Y2 G) es S → S ρ1 σ H1 → R J H1 := q
      unfold dEnum at e2
      rw [Option.map_eq_some_iff] at e2
      obtain ⟨ds, e3, rfl⟩ := e2
      cases d with
      | tup es =>
        cases e3
        obtain ⟨a, vs, rfl, ts, rv⟩ := s.1.tupOf
        exact ⟨a, rfl, .inr ⟨⟨vs, ts.sqt⟩, q3 _ H1 (Slt G a vs _) r1 f1 itis_ent ⟨rv, ts⟩⟩⟩
      | frl es =>
        cases e3
        cases s.1.rv rfl with
        | frl h rv => exact ⟨_, rfl, .inl ⟨⟨_, h.sql⟩, q3 _ H1 (Sls G _ _ _) r1 f1 itis_enl ⟨rv, .inl h⟩⟩⟩
      | lst es =>
        cases e3
        obtain ⟨a, vs, rfl, h, rv⟩ := s.1
        exact ⟨a, rfl, .inl ⟨⟨vs, SqL.of h⟩, q3 _ H1 (Sls G a vs _) r1 f1 itis_enl ⟨rv, .inr ⟨h, (s.2 a rfl rfl).1⟩⟩⟩⟩
      | _ => cases e3
/-- for i, x in enumerate(t) -/
theorem si_enum {X : Cx} {G : GG} [NoSlot G] {W : WX} {e : Expr} {m : ME} {p pos tpos : Pos} {elts : List Expr} {kk : Nat} (c : CT X G W) (hg : Gl X "enumerate") (hm : X.mg "enumerate" = none) (h : SE X G W e m) (hs : starEach [e] X.env = [(false, eval e X.env)] := by rfl) :
    SI X G W (.Tuple elts kk tpos) (.Call (.Name "enumerate" p) [e] [] pos) (Y2 G) (mI1 m dEnum) := pi_wk (pi_enA hg hm (pa_cons h pa_nil hs) hs) fun σ H R q => by
  rw [← c.k]
  exact rdEnum q
end TV

/-! Tv21: sorted of pairs; the built-ins in short. -/
namespace TV
open PySem PySem.Spec PyProof.Rows L2

/-! ### pairs of ints in order -/
def leP (a b : Int × Int) : Prop := a.1 < b.1 ∨ (a.1 = b.1 ∧ a.2 ≤ b.2)
instance {a b : Int × Int} : Decidable (leP a b) := inferInstanceAs (Decidable (_ ∨ _))
theorem leP_anti {a b : Int × Int} (h1 : leP a b) (h2 : leP b a) : a = b := by
  unfold leP at h1 h2
  have e1 : a.1 = b.1 := by omega
  have e2 : a.2 = b.2 := by omega
  exact Prod.ext e1 e2
theorem leP_trans {a b c : Int × Int} (h1 : leP a b) (h2 : leP b c) : leP a c := by
  unfold leP at h1 h2 ⊢
  omega
theorem leP_total (a b : Int × Int) (h : ¬ leP a b) : leP b a := by
  unfold leP at h ⊢
  omega
def insP (x : Int × Int) : List (Int × Int) → List (Int × Int)
  | [] => [x]
  | y :: ys => if leP x y then x :: y :: ys else y :: insP x ys
def sortP : List (Int × Int) → List (Int × Int)
  | [] => []
  | x :: xs => insP x (sortP xs)
theorem insP_perm (x : Int × Int) : ∀ ys, (insP x ys).Perm (x :: ys)
  | [] => .refl _
  | y :: ys => by
    unfold insP
    split
    · exact .refl _
    · exact ((insP_perm x ys).cons y).trans (.swap x y ys)
theorem sortP_perm : ∀ xs, (sortP xs).Perm xs
  | [] => .refl _
  | x :: xs => (insP_perm x _).trans ((sortP_perm xs).cons x)
theorem insP_sorted (x : Int × Int) : ∀ {ys : List (Int × Int)}, ys.Pairwise leP → (insP x ys).Pairwise leP
  | [], _ => List.pairwise_singleton _ _
  | y :: ys, h => by
    unfold insP
    have h' := List.pairwise_cons.mp h
    split
    · rename_i c
      refine List.pairwise_cons.mpr ⟨fun z hz => ?_, h⟩
      rcases List.mem_cons.mp hz with e | m
      · rw [e]; exact c
      · exact leP_trans c (h'.1 z m)
    · rename_i c
      refine List.pairwise_cons.mpr ⟨fun z hz => ?_, insP_sorted x h'.2⟩
      rcases List.mem_cons.mp ((insP_perm x ys).mem_iff.mp hz) with e | m
      · rw [e]; exact leP_total _ _ c
      · exact h'.1 z m
theorem sortP_sorted : ∀ xs : List (Int × Int), (sortP xs).Pairwise leP
  | [] => List.Pairwise.nil
  | x :: xs => insP_sorted x (sortP_sorted xs)
theorem sortP_uniq {ys xs : List (Int × Int)} (p : ys.Perm xs) (h : ys.Pairwise leP) : ys = sortP xs :=
  List.Perm.eq_of_pairwise (fun _ _ _ _ h1 h2 => leP_anti h1 h2) h (sortP_sorted xs) (p.trans (sortP_perm xs).symm)

def dPair : D → Option (Int × Int)
  | .tup [.int i, .int j] => some (i, j)
  | _ => none
def dPairs : List D → Option (List (Int × Int))
  | [] => some []
  | d :: ds => match dPair d, dPairs ds with
    | some p, some ps => some (p :: ps)
    | _, _ => none
def pD (p : Int × Int) : D := .tup [.int p.1, .int p.2]
theorem dPair_eq {d : D} {p : Int × Int} (h : dPair d = some p) : d = pD p := by
  unfold dPair at h
  split at h
  · cases h; rfl
  · cases h
theorem dPairs_eq : ∀ {ds : List D} {ps : List (Int × Int)}, dPairs ds = some ps → ds = ps.map pD
  | [], _, h => by cases h; rfl
  | d :: ds, ps, h => by
    unfold dPairs at h
    split at h
    · rename_i p qs e1 e2
      cases h
      rw [List.map_cons, dPair_eq e1, dPairs_eq e2]
    · cases h
def rSortP (K : PySem.W.Frag) : List V → Hp → VK → Prop := fun vs H Q => ∃ (a : Addr) (xs : List V) (k : V → Int × Int), vs = [V.ref a] ∧ SqL K H a xs ∧ (∀ x ∈ xs, ∃ t, x = V.ref t ∧ SqT K H t [.int (k x).1, .int (k x).2]) ∧
  ∀ ys p, (∀ t us ws, SqT K H t us → SqT K H t ws → us = ws) → SrtO.Srtd (ltP k) ys → SrtO.Stb (ltP k) ys xs → H p = none → Q (.ref p) (upd H p (.lst ys))
theorem cr_sortP {X : Cx} : CallR X (.builtin "sorted") (rSortP X.K) := by
  rintro pins s σ H vs us Q I r ⟨a, xs, k, rfl, hs, hx, q⟩
  obtain ⟨it, rv, hl, hz⟩ := I.list hs
  rw [Vals.ref1 r]
  obtain ⟨e1, e2⟩ := refs_back rv fun x m => by
    obtain ⟨t, e, _⟩ := hx x m
    exact ⟨t, e⟩
  refine SrtO.sorted_pairsO (k := fun u => k (backV u)) hl.isList (by rw [← rv.length]; exact hz) (fun v hv => ?_) fun h2 d out g1 g2 kp hd hn => ?_
  · obtain ⟨t, rfl⟩ := e2 v hv
    have hm : V.ref t ∈ xs := by rw [e1]; exact List.mem_map.mpr ⟨_, hv, rfl⟩
    obtain ⟨t2, e, ht⟩ := hx _ hm
    cases e
    obtain ⟨jt, r2, ⟨o, ho, hc, n, hd⟩, _⟩ := I.tuple ht
    obtain ⟨u1, u2, rfl, ri, rj⟩ := vals2 r2
    obtain ⟨t1, rfl⟩ := ri
    obtain ⟨t2, rfl⟩ := rj
    exact ⟨t, o, t1, t2, n, rfl, ho, hc, hd⟩
  · have h3 : ∀ u ∈ out, ∃ a, u = Value.ref a := fun u hu => e2 u (g2.perm.mem_iff.mp hu)
    obtain ⟨n, hn⟩ := hn
    have hb : SrtO.Stb (ltP k) (out.map backV) xs := by
      rw [e1]
      exact SrtO.Stb.map (ltP_swo k) backV g2
    refine ⟨.ref d, upd H d (.lst (out.map backV)), I.laid (t' := s.toks) kp hd ⟨?_, out, n, vals_back h3, hn⟩, rfl, q _ d (fun t us ws => I.tuple_inj) (SrtO.srtd_map g1) hb (I.hok.fresh hd)⟩
    rw [hb.len]
    exact hz
def dSortP : List D → Option D
  | [.lst ds] => (dPairs ds).map fun ps => .lst ((sortP ps).map pD)
  | [.frl ds] => (dPairs ds).map fun ps => .lst ((sortP ps).map pD)
  | _ => none
open Classical in
theorem vn_sortP {G : GG} [NoSlot G] : VN G 1 (rSortP G.K) dSortP := VN.one fun H x d z Q h ef g => by
  have main : ∀ {ds : List D} {a : Addr} {vs : List V} {ps : List (Int × Int)}, SqL G.K H a vs → RVs G H ds vs → dPairs ds = some ps → z = .lst ((sortP ps).map pD) → rSortP G.K [V.ref a] H Q := fun {ds a vs ps} s r e1 e2 => by
    let k : V → Int × Int := fun v => if c : ∃ p : Int × Int, RV G H (pD p) v then c.choose else (0, 0)
    have hk : ∀ {p : Int × Int} {v : V}, RV G H (pD p) v → ∃ t, v = .ref t ∧ SqT G.K H t [.int (k v).1, .int (k v).2] ∧ RV G H (pD (k v)) v := fun {p v} rv => by
      have c : ∃ p : Int × Int, RV G H (pD p) v := ⟨p, rv⟩
      have e : k v = c.choose := dif_pos c
      have rk : RV G H (pD (k v)) v := by rw [e]; exact c.choose_spec
      obtain ⟨t, ws, rfl, ts, rw'⟩ := (RV.rs rk).tupOf
      refine ⟨t, rfl, ?_, rk⟩
      cases rw' with
      | cons r1 rr =>
        cases rr with
        | cons r2 rr =>
          cases rr
          cases r1
          cases r2
          exact ts.sqt
    have all : ∀ {ds : List D} {vs : List V} {ps : List (Int × Int)}, RVs G H ds vs → dPairs ds = some ps → (∀ v ∈ vs, ∃ p, RV G H (pD p) v) := fun {ds vs ps} r e v hv => by
      obtain ⟨i, hi⟩ := List.mem_iff_getElem?.mp hv
      obtain ⟨d, hd, rv⟩ := r.getV hi
      rw [dPairs_eq e, List.getElem?_map, Option.map_eq_some_iff] at hd
      obtain ⟨p, _, rfl⟩ := hd
      exact ⟨p, rv⟩
    have hall := all r e1
    refine ⟨a, vs, k, rfl, s, fun x hx => ?_, fun ys p inj h1 h2 hp => ?_⟩
    · obtain ⟨q, rq⟩ := hall x hx
      obtain ⟨t, e, st, _⟩ := hk rq
      exact ⟨t, e, st⟩
    · have hys : ∀ v ∈ ys, RV G H (pD (k v)) v := fun v hv => by
        obtain ⟨q, rq⟩ := hall v (h2.perm.mem_iff.mp hv)
        exact (hk rq).choose_spec.2.2
      have rys : ∀ l : List V, (∀ v ∈ l, RV G H (pD (k v)) v) → RVs G H ((l.map k).map pD) l := fun l => by
        induction l with
        | nil => exact fun _ => .nil
        | cons v l ih => exact fun h => .cons (h v List.mem_cons_self) (ih fun w hw => h w (List.mem_cons_of_mem _ hw))
      -- the keys of the values are the pairs themselves
      have same : ∀ {p : Int × Int} {v : V}, RV G H (pD p) v → k v = p := fun {p v} rv => by
        obtain ⟨t, e, st, _⟩ := hk rv
        obtain ⟨t2, ws, e2, ts, rw'⟩ := (RV.rs rv).tupOf
        rw [e] at e2
        cases e2
        cases rw' with
        | cons r1 rr =>
          cases rr with
          | cons r2 rr =>
            cases rr
            cases r1
            cases r2
            have := inj _ _ _ st ts.sqt
            injection this with i1 i2
            injection i2 with i2 _
            injection i1 with i1
            injection i2 with i2
            exact Prod.ext i1 i2
      have keys : ∀ {vs : List V} {ps : List (Int × Int)}, RVs G H (ps.map pD) vs → vs.map k = ps := fun {vs ps} => by
        induction ps generalizing vs with
        | nil => exact fun r => by cases r; rfl
        | cons q ps ih =>
          intro r
          cases r with
          | cons r1 rr => rw [List.map_cons, same r1, ih rr]
      have ek : vs.map k = ps := keys (by rw [← dPairs_eq e1]; exact r)
      have e3 : ys.map k = sortP ps := by
        refine sortP_uniq (by rw [← ek]; exact h2.perm.map k) ?_
        refine List.pairwise_map.mpr (List.Pairwise.imp (fun {x y} hxy => ?_) h1)
        have := SrtO.lexB_no.mp hxy
        unfold leP
        omega
      have fin := rys ys hys
      rw [e3] at fin
      subst e2
      exact g.lst fin p hp
  cases d with
  | lst ds =>
    have ef : (dPairs ds).map (fun ps => D.lst ((sortP ps).map pD)) = some z := ef
    rw [Option.map_eq_some_iff] at ef
    obtain ⟨ps, e1, e2⟩ := ef
    obtain ⟨a, vs, rfl, s, r⟩ := h.lstOf
    exact main (SqL.of s) r e1 e2.symm
  | frl ds =>
    have ef : (dPairs ds).map (fun ps => D.lst ((sortP ps).map pD)) = some z := ef
    rw [Option.map_eq_some_iff] at ef
    obtain ⟨ps, e1, e2⟩ := ef
    obtain ⟨a, vs, rfl, s, r⟩ := h.frlOf
    exact main s r e1 e2.symm
  | _ => cases ef

/-! ### the built-ins in short -/
section
variable {X : Cx} {G : GG} [NoSlot G] {W : WX} {pos p : Pos} {a b : Expr} {oa ob : Opd}
theorem VN.or {n : Nat} {r r' : List V → Hp → VK → Prop} {f f' : List D → Option D} (h : VN G n r f) (k : VN G n r' f') : VN G n (fun xs H Q => r xs H Q ∨ r' xs H Q) (fun l => match f l with | some z => some z | none => f' l) := fun H vs ds z Q ln rs e g => by
  have e : (match f ds with | some z => some z | none => f' ds) = some z := e
  cases q : f ds with
  | some y => rw [q] at e; cases e; exact .inl (h H vs ds _ Q ln rs q g)
  | none => rw [q] at e; exact .inr (k H vs ds _ Q ln rs e g)
def dOr (f f' : List D → Option D) : List D → Option D := fun l => match f l with
  | some z => some z
  | none => f' l
def dSort : List D → Option D := dOr dSortL (dOr dSortT (dOr dSortK dSortP))
theorem one_star {X : Cx} {a : Expr} (h : starEach [a] X.env = [(false, eval a X.env)]) : starEach (a :: []) X.env = (false, eval a X.env) :: starEach [] X.env := h
theorem se_len (c : CT X G W) (hm : X.mg "len" = none) (ha : SO X G W a oa) (hg : Gl X "len" := by rfl) (he : starEach [a] X.env = (false, eval a X.env) :: starEach [] X.env := by rfl) : SE X G W (.Call (.Name "len" p) [a] [] pos) (mOp [oa] dLen) :=
  se_callB (r := rLen G.K) (by rw [c.k]; exact call_lenAll) vn_len hg hm boot_len (so_cons ha so_nil he) (by decide) (by decide) he
theorem se_abs (hm : X.mg "abs" = none) (ha : SO X G W a oa) (hg : Gl X "abs" := by rfl) (he : starEach [a] X.env = (false, eval a X.env) :: starEach [] X.env := by rfl) : SE X G W (.Call (.Name "abs" p) [a] [] pos) (mOp [oa] dAbs) :=
  se_callB call_abs vn_abs hg hm boot_abs (so_cons ha so_nil he) (by decide) (by decide) he
theorem se_max2 (c : CT X G W) (hm : X.mg "max" = none) (ha : SO X G W a oa) (hb : SO X G W b ob) (hg : Gl X "max" := by rfl) (he : starEach [a, b] X.env = (false, eval a X.env) :: starEach [b] X.env := by rfl) (hf : starEach [b] X.env = (false, eval b X.env) :: starEach [] X.env := by rfl) : SE X G W (.Call (.Name "max" p) [a, b] [] pos) (mOp [oa, ob] dMax2) :=
  se_callB (call_max2 (c.calm (NoSlot.c (G := G)))) vn_max2 hg hm boot_max (so_cons ha (so_cons hb so_nil hf) he) (by decide) (by decide) he (by rw [hf]; rfl)
theorem se_min2 (c : CT X G W) (hm : X.mg "min" = none) (ha : SO X G W a oa) (hb : SO X G W b ob) (hg : Gl X "min" := by rfl) (he : starEach [a, b] X.env = (false, eval a X.env) :: starEach [b] X.env := by rfl) (hf : starEach [b] X.env = (false, eval b X.env) :: starEach [] X.env := by rfl) : SE X G W (.Call (.Name "min" p) [a, b] [] pos) (mOp [oa, ob] dMin2) :=
  se_callB (call_min2 (c.calm (NoSlot.c (G := G)))) vn_min2 hg hm boot_min (so_cons ha (so_cons hb so_nil hf) he) (by decide) (by decide) he (by rw [hf]; rfl)
theorem se_maxS (c : CT X G W) (hm : X.mg "max" = none) (ha : SO X G W a oa) (hg : Gl X "max" := by rfl) (he : starEach [a] X.env = (false, eval a X.env) :: starEach [] X.env := by rfl) : SE X G W (.Call (.Name "max" p) [a] [] pos) (mOp [oa] dMaxS) :=
  se_callB (r := rMaxS G.K) (by rw [c.k]; exact cr_maxS (c.calm (NoSlot.c (G := G))) c.un) vn_maxS hg hm boot_max (so_cons ha so_nil he) (by decide) (by decide) he
theorem se_minS (c : CT X G W) (hm : X.mg "min" = none) (ha : SO X G W a oa) (hg : Gl X "min" := by rfl) (he : starEach [a] X.env = (false, eval a X.env) :: starEach [] X.env := by rfl) : SE X G W (.Call (.Name "min" p) [a] [] pos) (mOp [oa] dMinS) :=
  se_callB (r := rMinS G.K) (by rw [c.k]; exact cr_minS (c.calm (NoSlot.c (G := G))) c.un) vn_minS hg hm boot_min (so_cons ha so_nil he) (by decide) (by decide) he
theorem se_sum (c : CT X G W) (hm : X.mg "sum" = none) (ha : SO X G W a oa) (hg : Gl X "sum" := by rfl) (he : starEach [a] X.env = (false, eval a X.env) :: starEach [] X.env := by rfl) : SE X G W (.Call (.Name "sum" p) [a] [] pos) (mOp [oa] dSum) :=
  se_callB (r := rSum G.K) (by rw [c.k]; exact cr_sum (c.calm (NoSlot.c (G := G)))) vn_sum hg hm boot_sum (so_cons ha so_nil he) (by decide) (by decide) he
theorem se_sort (c : CT X G W) (hm : X.mg "sorted" = none) (ha : SO X G W a oa) (hg : Gl X "sorted" := by rfl) (he : starEach [a] X.env = (false, eval a X.env) :: starEach [] X.env := by rfl) : SE X G W (.Call (.Name "sorted" p) [a] [] pos) (mOp [oa] dSort) :=
  se_callB (r := fun xs H Q => rSortedI G.K xs H Q ∨ (rSortT G.K xs H Q ∨ (rSortK xs H Q ∨ rSortP G.K xs H Q))) (by rw [c.k]; exact cr_sortedI.or (cr_sortT.or ((call_sortedDI (c.calm (NoSlot.c (G := G)))).or cr_sortP))) (vn_sortL.or (vn_sortT.or (vn_sortK.or vn_sortP))) hg hm boot_sorted (so_cons ha so_nil he) (by decide) (by decide) he
theorem se_intOf (hm : X.mg "int" = none) (ha : SO X G W a oa) (hg : Gl X "int" := by rfl) (he : starEach [a] X.env = (false, eval a X.env) :: starEach [] X.env := by rfl) : SE X G W (.Call (.Name "int" p) [a] [] pos) (mOp [oa] dInt) :=
  se_callT (call_int1) vn_int hg hm boot_int (so_cons ha so_nil he) (by decide) (by decide) he
theorem se_tupOf (c : CT X G W) (hm : X.mg "tuple" = none) (ha : SO X G W a oa) (hg : Gl X "tuple" := by rfl) (he : starEach [a] X.env = (false, eval a X.env) :: starEach [] X.env := by rfl) : SE X G W (.Call (.Name "tuple" p) [a] [] pos) (mOp [oa] dTupOf) :=
  se_callT (r := rTupF G.K) (by rw [c.k]; exact call_tupF) vn_tupOf hg hm boot_tuple (so_cons ha so_nil he) (by decide) (by decide) he
theorem se_lstOf (c : CT X G W) (hm : X.mg "list" = none) (ha : SO X G W a oa) (hg : Gl X "list" := by rfl) (he : starEach [a] X.env = (false, eval a X.env) :: starEach [] X.env := by rfl) : SE X G W (.Call (.Name "list" p) [a] [] pos) (mOp [oa] dLstOf) :=
  se_callT (r := fun xs H Q => ∃ p ys, xs = [.ref p] ∧ (SqL G.K H p ys ∨ SqT G.K H p ys) ∧ ∀ l, H l = none → Q (.ref l) (upd H l (.lst ys))) (by rw [c.k]; exact call_list_of) vn_lstOf hg hm boot_list (so_cons ha so_nil he) (by decide) (by decide) he
end
end TV

/-! Tv22: a def of the text in short. -/
namespace TV
open PySem PySem.Spec PyProof.Rows L2

/-- the def x of the text does F -/
structure FnH (P : Program) (w : World) (K : PySem.W.Frag) (mg : Str → Option Value) (base : Heap) (G : GG) (k : Nat) (x : Str) (ps : List Str) (F : FV) : Prop where
  ex : ∃ f fd, FnOk P w K mg base (L2.CX P w) k f fd ps (spV G ps.length F) ∧ mg x = some (.ref f) ∧ PySem.W.keepIn K (.ref f) = true ∧ Binds K fd ps []
section
variable {X : Cx} {G : GG} [NoSlot G] {W : WX} {j k : Nat} {ps : List Str} {x : Str} {p pos : Pos} {e : Expr} {es : List Expr} {os : List Opd} {F : FV}
theorem se_fn (h : FnH X.prog X.w X.K X.mg X.base G j x ps F) (hl : os.length = ps.length) (hj : j ≤ k) (tk : Takes X W) (hr : Room k X.A) (ha : SOs X G W (e :: es) os) (hg : Gl X x := by rfl)
    (hdb : (x == ("__debug__" : Str)) = false := by decide) (he : starEach (e :: es) X.env = (false, eval e X.env) :: starEach es X.env := by rfl) (hpl : (backTo pos (starEach es X.env)).any (·.1) = false := by rfl) :
    SE X G W (.Call (.Name x p) (e :: es) [] pos) (mCall os F) := by
  obtain ⟨f, fd, ok, hm, hk, hb⟩ := h.ex
  rw [← hl] at ok
  exact se_call (ok.mono hj) tk hr hg hm hk hb ha hdb he hpl
/-- what holds in a body -/
theorem ct_body {P : Program} {w : World} {K : PySem.W.Frag} {mg : Str → Option Value} {base : Heap} {G : GG} [NoSlot G] {N ps : List Str} {qual : Str} {scope : Scope} {f : Addr} {cd : Value} {A : Around} {outer : List PySem.Env} {s : Shared} {H : Hp} {E : XK} {k : Nat} (hG : G.K = K) (sc : FnScope N ps scope) (hr : Room k (A.deeper (envOfC qual scope s.heap.objs.size f cd))) :
    CT (cxOf CX0 P w K mg base N qual scope f cd A outer s H E).nox G WF := ⟨hG, fun _ => rfl, takesF, PassesOwn.never, sc.nd, hr.units⟩
/-- .. in a body that may let something out -/
theorem ct_bodyX {P : Program} {w : World} {K : PySem.W.Frag} {mg : Str → Option Value} {base : Heap} {G : GG} [NoSlot G] {N ps : List Str} {qual : Str} {scope : Scope} {f : Addr} {cd : Value} {A : Around} {outer : List PySem.Env} {s : Shared} {H : Hp} {E : XK} {k : Nat} (hG : G.K = K) (sc : FnScope N ps scope) (hr : Room k (A.deeper (envOfC qual scope s.heap.objs.size f cd))) :
    CT (cxOf (L2.CX P w) P w K mg base N qual scope f cd A outer s H E) G (WD E) := ⟨hG, fun _ => rfl, takes_of rfl rfl rfl rfl, passes_of rfl, sc.nd, hr.units⟩
end
end TV
namespace TV
open PySem PySem.Spec PyProof.Rows L2
section
variable {X : Cx} {G : GG} [NoSlot G] {W : WX} {c' a b : Expr} {pos : Pos}
theorem pt_ifE {tc ta tb : TT} (hc : PT X c' tc) (ha : PT X a ta) (hb : PT X b tb) : PT X (.IfExp c' a b pos) (fun σ H Q => tc σ H fun k H1 => if k = true then ta σ H1 Q else tb σ H1 Q) := by
  refine ⟨fun pins s σ H Q I h => ?_⟩
  unfold PySem.isTrue
  refine wpAny_bind (thn (hc.run pins s σ H _ I h) fun d s1 ⟨H1, I1, q1⟩ => ?_)
  cases d with
  | true => exact ha.run pins s1 σ H1 Q I1 q1
  | false => exact hb.run pins s1 σ H1 Q I1 q1
def kIfT (a b : MT) : Bool → MT
  | true => a
  | false => b
abbrev mIfT (t a b : MT) : MT := tThen t (kIfT a b)
theorem st_ifE {t m n : MT} (h : ST X G W c' t) (ha : ST X G W a m) (hb : ST X G W b n) : ST X G W (.IfExp c' a b pos) (mIfT t m n) :=
  pt_wk (pt_ifE h ha hb) fun σ H Q q => (rdTT q).mono fun k H1 z => by
    cases k with
    | true => exact z
    | false => exact z
end
end TV

/-! Tv23: new instances: an __init__ that looks at its arguments, then keeps some of them. -/
namespace TV
open PySem PySem.Spec PyProof.Rows L2

/-- what is done first: each to go on -/
def preM : List MS → Env → Option Env
  | [], ρ => some ρ
  | m :: ms, ρ => match m ρ with
    | .ok (.nx, ρ1) => preM ms ρ1
    | _ => none
def tPre (G : GG) : List MS → TS → TS
  | [], t => t
  | m :: ms, t => tSeq (rdS G WF [] m) (tPre G ms t)
theorem pre_ok {G : GG} [NoSlot G] {t : TS} {E : Ends} {σ : L2.St} : ∀ {ms : List MS} {ρ ρ' : Env} {H : Hp}, RE G ρ σ H → preM ms ρ = some ρ' → (∀ H', RE G ρ' σ H' → Fr ρ σ H ρ' σ H' → t E σ H') → tPre G ms t E σ H
  | [], ρ, ρ', H, re, e, k => by cases e; exact k H re Fr.refl
  | m :: ms, ρ, ρ', H, re, e, k => by
    unfold preM at e
    split at e
    · rename_i ρ1 em
      refine ⟨ρ, re, ?_⟩
      rw [em]
      intro σ1 H1 r1 f1 s1
      cases s1.nil
      exact pre_ok r1 e fun H' r' f' => k H' r' (f1.trans f')
    · cases e
/-- self.f = a name, one behind another -/
def tFl (K : PySem.W.Frag) : List (Str × Nat) → TS
  | [] => tNext
  | p :: l => tSeq (sFld K (tVar 0) (tVar p.2) p.1) (tFl K l)
theorem putF_new {f : Str} {v : V} : ∀ {fs : List (Str × V)}, (∀ p ∈ fs, p.1 ≠ f) → putF f v fs = fs ++ [(f, v)]
  | [], _ => rfl
  | (g, x) :: r, h => by
    unfold putF
    rw [if_neg (h _ List.mem_cons_self), putF_new fun p hp => h p (List.mem_cons_of_mem _ hp)]
    rfl
theorem fl_ok {K : PySem.W.Frag} {E : Ends} {σ : L2.St} {x dx C : Addr} (h0 : σ[0]? = some (some (.ref x))) (hc : Cls K C) : ∀ {l : List (Str × Nat)} {ws : List V} {acc : List (Str × V)} {H : Hp},
    H x = some (.ins C dx acc) → l.length = ws.length → (∀ (i : Nat) (p : Str × Nat) (w : V), l[i]? = some p → ws[i]? = some w → σ[p.2]? = some (some w)) → (∀ p ∈ l, NoAttr K C p.1) → (l.map (·.1)).Nodup → (∀ p ∈ l, ∀ q ∈ acc, q.1 ≠ p.1) → acc.length + l.length < 1000 →
    (∀ H', H' x = some (.ins C dx (acc ++ (l.map (·.1)).zip ws)) → (∀ b o, b ≠ x → H b = some o → H' b = some o) → E.nx σ H') → tFl K l E σ H
  | [], [], acc, H, hx, _, _, _, _, _, _, k => k H (by rw [List.map_nil, List.zip_nil_left, List.append_nil]; exact hx) fun _ _ _ h => h
  | p :: l, w :: ws, acc, H, hx, hl, hv, hn, nd, hf, hz, k => by
    refine ⟨w, hv 0 p w rfl rfl, .ref x, h0, x, C, dx, acc, rfl, hx, hc, hn p List.mem_cons_self, by rw [List.length_cons] at hz; omega, ?_⟩
    rw [putF_new (hf p List.mem_cons_self)]
    have nd' := List.nodup_cons.mp nd
    refine fl_ok (l := l) (ws := ws) (acc := acc ++ [(p.1, w)]) h0 hc upd_same (Nat.succ.inj hl) (fun i q w' e1 e2 => hv (i + 1) q w' e1 e2) (fun q hq => hn q (List.mem_cons_of_mem _ hq)) nd'.2 (fun q hq r hr => ?_) (by rw [List.length_append, List.length_cons, List.length_nil]; rw [List.length_cons] at hz; omega) fun H' h1 h2 => ?_
    · rcases List.mem_append.mp hr with z | z
      · exact hf q (List.mem_cons_of_mem _ hq) r z
      · rw [List.mem_singleton.mp z]
        exact fun e => nd'.1 (by show p.1 ∈ l.map (·.1); rw [show p.1 = q.1 from e]; exact List.mem_map.mpr ⟨q, hq, rfl⟩)
    · refine k H' ?_ fun b o nb hb => h2 b o nb (by rw [upd_ne nb]; exact hb)
      rw [List.append_assoc] at h1
      exact h1
/-- what such an __init__ promises: N slots, ms first, then l -/
def spI (G : GG) (c N n : Nat) (ms : List MS) (l : List (Str × Nat)) : Sp := fun vs H Q _ => ∃ (x dx : Addr) (H0 : Hp) (ds : List D) (us : List V), vs = .ref x :: us ∧ vs.length = n ∧ H0 x = none ∧ H0 dx = none ∧ dx ≠ x ∧ H = upd (upd H0 dx (.own x)) x (.ins (G.cl c) dx []) ∧ RVs G H0 ds us ∧
  (∃ ρ', preM ms (padE N (none :: ds.map some)) = some ρ') ∧ ∀ H', H' x = some (.ins (G.cl c) dx ((l.map (·.1)).zip (permL (l.map (·.2)) vs))) → (∀ b o, H0 b = some o → H' b = some o) → Q .non H'
theorem permL_len2 {α : Type} {l : List α} {ix : List Nat} (h : ∀ i ∈ ix, i < l.length) : (permL ix l).length = ix.length := permL_len h
theorem permL_get {α : Type} {l : List α} : ∀ {ix : List Nat}, (∀ i ∈ ix, i < l.length) → ∀ (j i : Nat) (w : α), ix[j]? = some i → (permL ix l)[j]? = some w → l[i]? = some w
  | [], _, j, i, w, e, _ => by cases e
  | k :: ix, h, j, i, w, e, q => by
    unfold permL at q
    rw [List.filterMap_cons, List.getElem?_eq_getElem (h k List.mem_cons_self)] at q
    cases j with
    | zero =>
      cases e
      cases q
      exact List.getElem?_eq_getElem (h k List.mem_cons_self)
    | succ j => exact permL_get (fun i hi => h i (List.mem_cons_of_mem _ hi)) j i w e q
theorem init_ok {G : GG} [NoSlot G] {X : Cx} {N : List Str} {c n : Nat} {ms : List MS} {l : List (Str × Nat)} {body : List Stmt} {vs : List V} {H : Hp} {Q : VK} {E : XK} (h : PSs X body (tPre G ms (tFl G.K l))) (hpin : ∀ H, G.pin H) (hsp : spI G c N.length n ms l vs H Q E) (hn : n ≤ N.length)
    (hc : Cls G.K (G.cl c)) (ha : ∀ p ∈ l, NoAttr G.K (G.cl c) p.1) (nd : (l.map (·.1)).Nodup) (hl : ∀ i ∈ l.map (·.2), i < n) (hz : l.length < 1000) :
    ∃ t, PSs X body t ∧ t { nx := fun _ H' => Q .non H', rt := Q } (L2.start N vs) H := by
  refine ⟨_, h, ?_⟩
  obtain ⟨x, dx, H0, ds, us, rfl, ln, hx0, hd0, ndx, rfl, rv, ⟨ρ', ep⟩, k⟩ := hsp
  have keep : ∀ b o, H0 b = some o → upd (upd H0 dx (.own x)) x (.ins (G.cl c) dx []) b = some o := fun b o hb => by
    have h1 : b ≠ x := fun z => by subst z; rw [hx0] at hb; cases hb
    have h2 : b ≠ dx := fun z => by subst z; rw [hd0] at hb; cases hb
    rw [upd_ne h1, upd_ne h2]
    exact hb
  have rv1 : RVs G (upd (upd H0 dx (.own x)) x (.ins (G.cl c) dx [])) ds us := rv.mono fun b o hb _ => keep b o hb
  have re0 : RE G (none :: ds.map some) (List.map some (V.ref x :: us)) (upd (upd H0 dx (.own x)) x (.ins (G.cl c) dx [])) := (RE.of_rvs (hpin _) rv1).1.consO fun d e => by cases e
  have no0 : ∀ a, ¬ own (padE N.length (none :: ds.map some)) (L2.start N (V.ref x :: us)) a := fun a z => by
    rcases own_cons (own_pad z) with ⟨d, e, _⟩ | z
    · cases e
    · exact (RE.of_rvs (hpin _) rv1).2 a z
  refine pre_ok re0.pad ep fun H1 r1 f1 => ?_
  have st : ∀ i v, (V.ref x :: us)[i]? = some v → (L2.start N (V.ref x :: us))[i]? = some (some v) := fun i v e => start_get.mpr (by rw [List.getElem?_map, e]; rfl)
  refine fl_ok (x := x) (dx := dx) (acc := []) (ws := permL (l.map (·.2)) (V.ref x :: us)) (st 0 _ rfl) hc (f1 x _ upd_same (no0 x)).1 ?_ (fun i p w e1 e2 => ?_) ha nd (fun p hp q hq => nomatch hq) (by rw [List.length_nil, Nat.zero_add]; exact hz) fun H' h1 h2 => ?_
  · rw [permL_len2 (by rw [ln]; exact hl), List.length_map]
  · refine st _ _ (permL_get (by rw [ln]; exact hl) i p.2 w ?_ e2)
    rw [List.getElem?_map, e1]
    rfl
  · refine k H' h1 fun b o hb => ?_
    have h1 : b ≠ x := fun z => by subst z; rw [hx0] at hb; cases hb
    exact h2 b o h1 (f1 b o (keep b o hb) (no0 b)).1

/-! ### C(..) -/
/-- the fields of the new instance -/
def fMake (c N : Nat) (ms : List MS) (l : List (Str × Nat)) (dfl : List D) (ix : List Nat) (ds : List D) : Option D :=
  if (permL ix (ds ++ dfl)).all (fun d => !d.own) = true ∧ (preM ms (padE N (none :: (permL ix (ds ++ dfl)).map some))).isSome = true then some (.ins c (permL (l.map fun p => p.2 - 1) (permL ix (ds ++ dfl)))) else none
theorem rss_rvs {G : GG} [NoSlot G] {H : Hp} : ∀ {ds : List D} {vs : List V}, RSs G H ds vs → ds.all (fun d => !d.own) = true → RVs G H ds vs
  | _, _, .nil, _ => .nil
  | _, _, .cons h r, e => by
    rw [List.all_cons, Bool.and_eq_true] at e
    exact .cons (h.rv (by simpa using e.1)) (rss_rvs r e.2)
theorem RSs.get' {G : GG} [NoSlot G] {H : Hp} : ∀ {ds : List D} {vs : List V} {i : Nat}, RSs G H ds vs → (∃ d v, ds[i]? = some d ∧ vs[i]? = some v ∧ RS G H d v) ∨ (ds[i]? = none ∧ vs[i]? = none)
  | _, _, i, .nil => .inr ⟨by simp, by simp⟩
  | _, _, 0, .cons h _ => .inl ⟨_, _, rfl, rfl, h⟩
  | _, _, i + 1, .cons _ r => by simpa using r.get' (i := i)
theorem rss_perm {G : GG} [NoSlot G] {H : Hp} {ds : List D} {vs : List V} (r : RSs G H ds vs) : ∀ ix : List Nat, RSs G H (permL ix ds) (permL ix vs)
  | [] => .nil
  | i :: ix => by
    have ih := rss_perm r ix
    unfold permL at ih ⊢
    rw [List.filterMap_cons, List.filterMap_cons]
    rcases r.get' (i := i) with ⟨d, v, e1, e2, h⟩ | ⟨e1, e2⟩
    · rw [e1, e2]; exact .cons h ih
    · rw [e1, e2]; exact ih
theorem rvs_perm {G : GG} [NoSlot G] {H : Hp} {ds : List D} {vs : List V} (r : RVs G H ds vs) : ∀ ix : List Nat, RVs G H (permL ix ds) (permL ix vs)
  | [] => .nil
  | i :: ix => by
    have ih := rvs_perm r ix
    unfold permL at ih ⊢
    rw [List.filterMap_cons, List.filterMap_cons]
    cases e : ds[i]? with
    | none => rw [r.none_iff e]; exact ih
    | some d =>
      obtain ⟨v, e2, h⟩ := r.get e
      rw [e2]
      exact .cons h ih
theorem rss_app {G : GG} [NoSlot G] {H : Hp} {es : List D} {ws : List V} (q : RVs G H es ws) : ∀ {ds : List D} {vs : List V}, RSs G H ds vs → RSs G H (ds ++ es) (vs ++ ws)
  | _, _, .nil => by
    rw [List.nil_append, List.nil_append]
    have : ∀ {es : List D} {ws : List V}, RVs G H es ws → RSs G H es ws := fun {es} => by
      induction es with
      | nil => exact fun q => by cases q; exact .nil
      | cons d es ih => exact fun q => by cases q with | cons h r => exact .cons h.rs (ih r)
    exact this q
  | _, _, .cons h r => .cons h (rss_app q r)
theorem perm_shift {α : Type} {y : α} {l : List α} : ∀ {ix : List Nat}, (∀ i ∈ ix, 0 < i) → permL ix (y :: l) = permL (ix.map fun i => i - 1) l
  | [], _ => rfl
  | i :: ix, h => by
    have ih := perm_shift (y := y) (l := l) (ix := ix) fun j hj => h j (List.mem_cons_of_mem _ hj)
    unfold permL at ih ⊢
    rw [List.map_cons, List.filterMap_cons, List.filterMap_cons, ih]
    obtain ⟨k, rfl⟩ : ∃ k, i = k + 1 := ⟨i - 1, by have := h i List.mem_cons_self; omega⟩
    rfl
/-- the rule of the layer does it -/
theorem vn_make {G : GG} [NoSlot G] {m c N n : Nat} {ms : List MS} {l : List (Str × Nat)} {dfl : List D} {dvs : List V} {ix : List Nat} (hd : ∀ H, RVs G H dfl dvs) (hx : ∀ i ∈ ix, i < m + dfl.length) (hn : n = ix.length + 1) (hl0 : ∀ p ∈ l, 0 < p.2) (hl : ∀ p ∈ l, p.2 < n) (hnm : G.nm c = l.map (·.1)) :
    VN G m (fun vs H Q => ∀ x dx, H x = none → H dx = none → dx ≠ x → spI G c N n ms l (V.ref x :: permL ix (vs ++ dvs)) (upd (upd H dx (.own x)) x (.ins (G.cl c) dx [])) (fun v H3 => v = .non ∧ Q (.ref x) H3) E0) (fMake c N ms l dfl ix) := by
  intro H vs ds z Q ln rs ef g x dx hx0 hd0 ndx
  unfold fMake at ef
  split at ef
  case isFalse => cases ef
  rename_i co
  cases ef
  have rp := rss_perm (rss_app (hd H) rs) ix
  have rv := rss_rvs rp co.1
  obtain ⟨ρ', ep⟩ := Option.isSome_iff_exists.mp co.2
  have lds : ∀ {ds : List D} {vs : List V}, RSs G H ds vs → ds.length = vs.length := fun {ds} => by
    induction ds with
    | nil => exact fun r => by cases r; rfl
    | cons d ds ih => exact fun r => by cases r with | cons h r => exact congrArg Nat.succ (ih r)
  have lv : (permL ix (vs ++ dvs)).length = ix.length := permL_len fun i hi => by
    rw [List.length_append, ← lds rs, ln, ← (hd H).length]
    exact hx i hi
  refine ⟨x, dx, H, _, _, rfl, by rw [List.length_cons, lv, hn], hx0, hd0, ndx, rfl, rv, ⟨ρ', ep⟩, fun H' h1 h2 => ⟨rfl, ?_⟩⟩
  have hs : ∀ i ∈ l.map (·.2), 0 < i := fun i hi => by
    obtain ⟨p, hp, rfl⟩ := List.mem_map.mp hi
    exact hl0 p hp
  rw [perm_shift hs, List.map_map] at h1
  refine g (.ref x) H' h2 ?_ fun a _ o => (by cases o)
  refine RV.ins (dx := dx) (by rw [hnm]; exact h1) ?_ ((rvs_perm rv _).mono fun b o hb _ => h2 b o hb)
  rw [hnm, List.length_map]
  refine Eq.symm ((permL_len fun i hi => ?_).trans (List.length_map ..))
  rw [lv]
  obtain ⟨p, hp, rfl⟩ := List.mem_map.mp hi
  have := hl p hp
  have := hl0 p hp
  show p.2 - 1 < ix.length
  omega
end TV

/-! Tv24: calls with keywords and defaults, in short; new instances. -/
namespace TV
open PySem PySem.Spec PyProof.Rows L2

/-- the def x, called with n values by place and keywords ks; ix: where the parameters stand among the values, the keywords' values, the defaults dvs -/
structure FnKw (P : Program) (w : World) (K : PySem.W.Frag) (mg : Str → Option Value) (base : Heap) (G : GG) (k : Nat) (x : Str) (ps : List Str) (F : FV) (n : Nat) (ks : List Str) (ix : List Nat) (dvs : List V) : Prop where
  ex : ∃ f fd dd, FnOk P w K mg base (L2.CX P w) k f fd ps (spV G ps.length F) ∧ mg x = some (.ref f) ∧ PySem.W.keepIn K (.ref f) = true ∧ KBn K fd ps n ks (fun us ws => permL ix (us ++ ws ++ dd)) (fun vs zs => permL ix (vs ++ zs ++ dvs))
/-- the class x, the c-th, its __init__ as Tv23 has it -/
structure FnMk (P : Program) (w : World) (K : PySem.W.Frag) (mg : Str → Option Value) (base : Heap) (G : GG) (k : Nat) (x : Str) (c N : Nat) (ps : List Str) (ms : List MS) (l : List (Str × Nat)) (n : Nat) (ks : List Str) (ix : List Nat) (dvs : List V) : Prop where
  ex : ∃ f fd dd, Mk K (G.cl c) f ∧ FnOk P w K mg base CX0 k f fd ps (spI G c N ps.length ms l) ∧ mg x = some (.ref (G.cl c)) ∧ KBn K fd ps (n + 1) ks (fun us ws => permL (0 :: ix.map fun i => i + 1) (us ++ ws ++ dd)) (fun vs zs => permL (0 :: ix.map fun i => i + 1) (vs ++ zs ++ dvs))
theorem perm_succ {α : Type} {y : α} {l : List α} : ∀ {ix : List Nat}, permL (ix.map fun i => i + 1) (y :: l) = permL ix l
  | [] => rfl
  | i :: ix => by
    have ih := perm_succ (y := y) (l := l) (ix := ix)
    unfold permL at ih ⊢
    rw [List.map_cons, List.filterMap_cons, List.filterMap_cons, ih]
    rfl
section
variable {X : Cx} {G : GG} [NoSlot G] {W : WX} {j k n : Nat} {ps ks : List Str} {x : Str} {p pos : Pos} {e : Expr} {es : List Expr} {kws : List Keyword} {os os2 : List Opd} {F : FV} {dfl : List D} {dvs : List V} {ix : List Nat}
theorem se_kw (h : FnKw X.prog X.w X.K X.mg X.base G j x ps F n ks ix dvs) (hd : ∀ H, RVs G H dfl dvs) (hn : os.length = n) (hl : os2.length = ks.length) (hi : ix.length = ps.length) (nd : ix.Nodup) (hx : ∀ i ∈ ix, i < (os ++ os2).length + dfl.length) (hj : j ≤ k) (tk : Takes X W) (hr : Room k X.A)
    (ha : SOs X G W (e :: es) os) (hkw : PK X kws (tOs G W os2)) (hg : Gl X x := by rfl) (hall : (backToKw pos (keywordEach kws X.env)).all (·.1.isSome) = true := by rfl) (hks : (backToKw pos (keywordEach kws X.env)).filterMap (·.1) = ks := by rfl)
    (hdb : (x == ("__debug__" : Str)) = false := by decide) (he : starEach (e :: es) X.env = (false, eval e X.env) :: starEach es X.env := by rfl)
    (hpl : ((backTo pos (starEach (e :: es) X.env)).any (·.1) || (backToKw pos (keywordEach kws X.env)).any (·.1.isNone)) = false := by rfl) : SE X G W (.Call (.Name x p) (e :: es) kws pos) (mCallP (os ++ os2) dfl ix F) := by
  obtain ⟨f, fd, dd, ok, hm, hk, hb⟩ := h.ex
  subst hn
  rw [← hi] at ok
  exact se_callN (ok.mono hj) tk hr hg hm hk hb hd nd hx hl ha hkw hall hks hdb he hpl
theorem se_kw0 (h : FnKw X.prog X.w X.K X.mg X.base G j x ps F 0 ks ix dvs) (hd : ∀ H, RVs G H dfl dvs) (hl : os2.length = ks.length) (hi : ix.length = ps.length) (nd : ix.Nodup) (hx : ∀ i ∈ ix, i < os2.length + dfl.length) (hj : j ≤ k) (tk : Takes X W) (hr : Room k X.A)
    (hkw : PK X kws (tOs G W os2)) (hg : Gl X x := by rfl) (hall : (backToKw pos (keywordEach kws X.env)).all (·.1.isSome) = true := by rfl) (hks : (backToKw pos (keywordEach kws X.env)).filterMap (·.1) = ks := by rfl)
    (hdb : (x == ("__debug__" : Str)) = false := by decide) (hpl : ((backTo pos (starEach [] X.env)).any (·.1) || (backToKw pos (keywordEach kws X.env)).any (·.1.isNone)) = false := by rfl) : SE X G W (.Call (.Name x p) [] kws pos) (mCallP os2 dfl ix F) := by
  obtain ⟨f, fd, dd, ok, hm, hk, hb⟩ := h.ex
  rw [← hi] at ok
  exact se_callN0 (ok.mono hj) tk hr hg hm hk hb hd nd hx hl hkw hall hks hdb hpl
/-- C(e, .., k = v, ..) -/
theorem se_mk {c N : Nat} {ms : List MS} {l : List (Str × Nat)} (h : FnMk X.prog X.w X.K X.mg X.base G j x c N ps ms l n ks ix dvs) (hd : ∀ H, RVs G H dfl dvs) (hn : os.length = n) (hl : os2.length = ks.length) (hi : ps.length = ix.length + 1) (hx : ∀ i ∈ ix, i < (os ++ os2).length + dfl.length) (hl0 : ∀ p ∈ l, 0 < p.2) (hl2 : ∀ p ∈ l, p.2 < ps.length) (hnm : G.nm c = l.map (·.1)) (hj : j + 1 ≤ k) (hr : Room k X.A)
    (ha : SOs X G W (e :: es) os) (hkw : PK X kws (tOs G W os2)) (hg : Gl X x := by rfl) (hall : (backToKw pos (keywordEach kws X.env)).all (·.1.isSome) = true := by rfl) (hks : (backToKw pos (keywordEach kws X.env)).filterMap (·.1) = ks := by rfl)
    (hdb : (x == ("__debug__" : Str)) = false := by decide) (he : starEach (e :: es) X.env = (false, eval e X.env) :: starEach es X.env := by rfl)
    (hpl : ((backTo pos (starEach (e :: es) X.env)).any (·.1) || (backToKw pos (keywordEach kws X.env)).any (·.1.isNone)) = false := by rfl) : SE X G W (.Call (.Name x p) (e :: es) kws pos) (mOp (os ++ os2) (fMake c N ms l dfl ix)) := by
  obtain ⟨f, fd, dd, M, ok, hm, hb⟩ := h.ex
  subst hn
  refine pe_wk (pe_makeK M ok (hr.mono hj) hg hm hb pass0 ha hkw hall hks hdb he hpl) fun σ H Q q => ?_
  have z := mOp_rd (vn_make (n := ps.length) hd hx hi hl0 hl2 hnm) q
  refine tOs_mono (tOs_app z) fun vs H1 z => tOs_mono (tOs_len z.2) fun zs H2 y => ⟨z.1, y.1.trans hl, fun a b h1 h2 h3 => ?_⟩
  have k := y.2 a b h1 h2 h3
  show spI G c N ps.length ms l (permL (0 :: ix.map fun i => i + 1) ((V.ref a :: vs) ++ zs ++ dvs)) _ _ E0
  have e1 : permL (0 :: ix.map fun i => i + 1) ((V.ref a :: vs) ++ zs ++ dvs) = V.ref a :: permL ix (vs ++ zs ++ dvs) := by
    show V.ref a :: permL (ix.map fun i => i + 1) (V.ref a :: (vs ++ zs ++ dvs)) = _
    rw [perm_succ]
  rw [e1]
  exact k
end

/-! ### how the arguments bind -/
section
variable {K : PySem.W.Frag} {x qual : Str} {st : Stmt} {f : Addr} {fd : FuncData} {ps : List Str} {dvs : List V} {kws : List (Str × V)}
abbrev FnD (K : PySem.W.Frag) (x qual : Str) (st : Stmt) (dvs : List V) (kws : List (Str × V)) (f : Addr) (fd : FuncData) : Prop := FunD K x qual (defArgs st) (defBody st) (defScope st) dvs kws f fd
/-- no defaults -/
theorem kb_plain (F : Fun K x qual st f fd) (n : Nat) (ks : List Str) (ix : List Nat) (h : ∀ (kV doc pm : Value) (an : Option Addr) (cdv ct : Value) (us ws : List Value), us.length = n → ws.length = ks.length → bindArgs (PySem.W.fnOf x qual (defArgs st) (defBody st) (defScope st) .none kV doc pm an cdv ct) ⟨us, ks.zip ws⟩ = pure (ps.zip (permL ix (us ++ ws ++ [])))) :
    KBn K fd ps n ks (fun us ws => permL ix (us ++ ws ++ [])) (fun vs zs => permL ix (vs ++ zs ++ [])) := by
  obtain ⟨oc, od, kV, doc, pm, an, cdv, ct, osl, rfl, lk, hcd⟩ := F.ex
  exact ⟨fun s us ws X l1 l2 => .of_eq (h kV doc pm an cdv ct us ws l1 l2), fun r1 r2 => permL_vals ((r1.append r2).append .nil) ix⟩
/-- defaults by place -/
theorem kb_pos (F : FnD K x qual st dvs [] f fd) (n : Nat) (ks : List Str) (ix : List Nat) (hd : dvs ≠ []) (h : ∀ (T : Addr) (kV doc pm : Value) (an : Option Addr) (cdv ct : Value) (us its ws : List Value), us.length = n → its.length = dvs.length → ws.length = ks.length →
      ∃ k, bindArgs (PySem.W.fnOf x qual (defArgs st) (defBody st) (defScope st) (.ref T) kV doc pm an cdv ct) ⟨us, ks.zip ws⟩ = seqItems? (.ref T) >>= k ∧ k (some its.toArray) = pure (ps.zip (permL ix (us ++ ws ++ its)))) :
    ∃ dd, KBn K fd ps n ks (fun us ws => permL ix (us ++ ws ++ dd)) (fun vs zs => permL ix (vs ++ zs ++ dvs)) :=
  F.kbindsD n ks (fun us its ws => permL ix (us ++ ws ++ its)) hd (fun r1 r2 r3 => permL_vals ((r1.append r3).append r2) ix) h
/-- keyword-only defaults -/
theorem kb_kw (F : FnD K x qual st [] kws f fd) (n : Nat) (ks : List Str) (ms : List (Str × V)) (ix : List Nat) (hk : kws ≠ []) (hms : ∀ q ∈ ms, q ∈ kws) (h : ∀ (D : Addr) (doc pm : Value) (an : Option Addr) (cdv ct : Value) (us mv ws : List Value), us.length = n → mv.length = ms.length → ws.length = ks.length →
      KwChain D ((ms.map (·.1)).zip mv) (bindArgs (PySem.W.fnOf x qual (defArgs st) (defBody st) (defScope st) .none (.ref D) doc pm an cdv ct) ⟨us, ks.zip ws⟩) (ps.zip (permL ix (us ++ ws ++ mv)))) :
    ∃ dd, KBn K fd ps n ks (fun us ws => permL ix (us ++ ws ++ dd)) (fun vs zs => permL ix (vs ++ zs ++ ms.map (·.2))) :=
  F.kbinds0 n ks ms (fun us mv ws => permL ix (us ++ ws ++ mv)) hk hms (fun r1 r2 r3 => permL_vals ((r1.append r3).append r2) ix) h
end
end TV
namespace TV
open PySem PySem.Spec PyProof.Rows L2
section
variable {X : Cx} {G : GG} [NoSlot G] {st : Stmt} {rest : List Stmt} {m : MS} {ms : List MS} {t : TS} {l : List (Str × Nat)} {i : Nat} {f x : Str} {p p2 p3 pos : Pos}
theorem pre_cons (h : SS X G WF st [] m) (k : PSs X rest (tPre G ms t)) : PSs X (st :: rest) (tPre G (m :: ms) t) := pss_cons h k
theorem pre_nil (k : PSs X rest t) : PSs X rest (tPre G [] t) := k
theorem fl_cons {y : Str} (hG : G.K = X.K) (h0 : PE X (.Name y p) (tVar 0)) (h : PE X (.Name x p2) (tVar i)) (hs : swapsWith (.Name x p2) (some (.Attribute (.Name y p) f p3)) pos.line X.env = pure false) (k : PSs X rest (tFl G.K l)) :
    PSs X (.Assign [.Attribute (.Name y p) f p3] (.Name x p2) pos :: rest) (tFl G.K ((f, i) :: l)) := by
  rw [hG] at k ⊢
  exact pss_cons (ps_fld h0 h hs) k
theorem fl_nil {K : PySem.W.Frag} : PSs X [] (tFl K []) := pss_nil
end
end TV

/-! Tv25: the law's own def: a list of ints is handed in, True comes out. -/
namespace TV
open PySem PySem.Spec PyProof.Rows L2

def spLaw (K : PySem.W.Frag) (n : Nat) : Sp := fun vs H Q _ => ∃ (a : Addr) (ns : List Int), vs = [.ref a] ∧ ns.length ≤ n ∧ Only H ∧ SqL K H a (ns.map V.int) ∧ ∀ H', Q (.bl true) H'
theorem law_imp {G : GG} [NoSlot G] {F : FV} {n : Nat} (hp : ∀ H, G.pin H) (hF : ∀ ns : List Int, ns.length ≤ n → ∃ τ, F [some (.frl (ns.map D.int))] = .ok (.bl true, τ)) (vs : List V) (H : Hp) (Q : VK) (E : XK) (h : spLaw G.K n vs H Q E) : spV0 G 1 F vs H Q E := by
  obtain ⟨a, ns, rfl, hn, ho, hs, q⟩ := h
  obtain ⟨τ, e⟩ := hF ns hn
  have fl : FrL G.K H a (ns.map V.int) := by
    rcases hs with (h | h) | h
    · rcases ho a with z | ⟨o, xs, z⟩
      · rw [h] at z; cases z
      · rw [h] at z; cases z
    · exact .inl h
    · exact .inr h
  have r : RVs G H [.frl (ns.map D.int)] [.ref a] := .cons (.frl fl (RVs.of_ints ns)) .nil
  refine ⟨rfl, [some (.frl (ns.map D.int))], (RE.of_rvs (hp H) r).1, ?_⟩
  rw [e]
  intro v H' _ _ z
  cases z.1
  exact q H'
theorem end_imp {P : Program} {w : World} {K : PySem.W.Frag} {mg : Str → Option Value} {fa : Addr} {k n : Nat} {x : Str} {F : FV} {G : GG} [NoSlot G] (hG : G.K = K) (hp : ∀ H, G.pin H) (hF : ∀ ns : List Int, ns.length ≤ n → ∃ τ, F [some (.frl (ns.map D.int))] = .ok (.bl true, τ))
    (h : ∃ fd : FuncData, (∀ (s : Shared) (v : Value), BindsTo s fd ⟨[v], []⟩ [(x, v)]) ∧ ∀ base : Heap, K.In base → base.Ns mainGlobals mg → FnOk P w K mg base CX0 k fa fd [x] (spV0 G 1 F)) :
    ∃ fd : FuncData, (∀ (s : Shared) (v : Value), BindsTo s fd ⟨[v], []⟩ [(x, v)]) ∧ ∀ base : Heap, K.In base → base.Ns mainGlobals mg → FnOk P w K mg base CX0 k fa fd [x] (spLaw K n) := by
  obtain ⟨fd, h1, h2⟩ := h
  subst hG
  exact ⟨fd, h1, fun base a b => (h2 base a b).imp (law_imp hp hF)⟩
theorem walk {l : PySem.W.OpenLaw} {k : Nat} {x : Str} {q : Program} {loose : List Str} {XP : (Str → Option Value) → Heap → Prop} {YP : World → Heap → Prop} {d : DefRec} {K : Params → PySem.W.Frag} (hn : l.most = some 63) (hdf : d.params.defaults = []) (hr : Room k callerA)
    (hY : ∀ (w : World) (h : Heap), YP w h → (K w.params).In h)
    (F : ∀ (w : World) (mg : Str → Option Value) (fa : Addr) (h : Heap), (K w.params).In h → h.Ns mainGlobals mg → mg d.name = some (.ref fa) →
      ∃ fd : FuncData, (∀ (s : Shared) (u : Value), BindsTo s fd ⟨[u], []⟩ [(x, u)]) ∧ ∀ base : Heap, (K w.params).In base → base.Ns mainGlobals mg → FnOk l.prog w (K w.params) mg base CX0 k fa fd [x] (spLaw (K w.params) 63)) :
    PySem.W.WalkO q loose XP YP l.row.toRowW d [] (fun f vs => PySem.call f vs) :=
  L2.walk_of (n := 63) (k := k) (x := x) (CX := fun _ => CX0) (sp := fun w => spLaw (K w.params) 63) hn (by decide) hdf hr hY F (fun _ _ a ns hl ho hS => ⟨a, ns, rfl, hl, ho, hS, fun _ => rfl⟩) fun _ _ _ _ _ z => z
end TV

/-! Te1: the program's own errors: Refused stands over ValueError, its __init__ says super().__init__("refused") and keeps what; the others stand over Refused. -/
namespace PySem
namespace RFX
open PySem.W PySem.Calls PyProof.Rows PySem.HandSPX
def iA : Arguments := { posonlyargs := [], args := [{ arg := "self", annotation := none, pos := ⟨4, 17, 4, 21⟩ }, { arg := "what", annotation := none, pos := ⟨4, 23, 4, 27⟩ }], vararg := none, kwonlyargs := [], kw_defaults := [], kwarg := none, defaults := [] }
def iB : List Stmt := [.Expr (.Call (.Attribute (.Call (.Name "super" ⟨5, 8, 5, 13⟩) [] [] ⟨5, 8, 5, 15⟩) "__init__" ⟨5, 8, 5, 24⟩) [.Constant (.str "refused") 0 ⟨5, 25, 5, 34⟩] [] ⟨5, 8, 5, 35⟩) ⟨5, 8, 5, 35⟩, .Assign [.Attribute (.Name "self" ⟨6, 8, 6, 12⟩) "what" ⟨6, 8, 6, 17⟩] (.Name "what" ⟨6, 20, 6, 24⟩) ⟨6, 8, 6, 24⟩]
def iS : Scope := { kind := .function, names := [(PySem.Str.ofString "self", .local), (PySem.Str.ofString "what", .local), (PySem.Str.ofString "__class__", .free), (PySem.Str.ofString "super", .globalImplicit)], isGenerator := false, isCoroutine := false, more := [] }
/-- Refused itself, at D, its __init__ at fI -/
structure RefC (P : Program) (K : Frag) (D fI : Addr) : Prop where
  fn : ∃ (oc : Value) (od : Option Addr) (kV doc pm : Value) (an : Option Addr) (ct : Value) (osl : Array (Option Value)) (cda cc : Addr),
    K.lookup fI = some ⟨oc, od, .func (ksFn "__init__" "Refused.__init__" iA iB iS .none kV doc pm an (.ref cda) ct cc), osl⟩ ∧ codeIn K (.ref cda) "Refused.__init__" = true ∧
    (∃ ccl cdd vs ccs file tf, K.lookup cda = some ⟨ccl, cdd, .fields vs, ccs⟩ ∧ vs[2]? = some (.str file tf) ∧ ((P.main.file : Str) == file) = true) ∧
    ∃ cl cld csl, K.lookup cc = some ⟨cl, cld, .cell (some (.ref D)), csl⟩
  isD : ∃ cdD, clsIn K D = some cdD
  sup : nsIn K mainGlobals "super" = some none
  opq : nsIn K cStatics "thirdparty.any" = some none
  top : (P.main.scope.names.lookup ("super" : Str)).isSome = false
/-- an error's class, at C -/
structure RefK (K : Frag) (D C fI : Addr) : Prop where
  cls : ∃ nm q N bs bm sn sub ab col dd k0 k1 k2 k3 k5, K.lookup C = some (excClassObj nm q C N bs bm true sn sub ab col dd k0 k1 k2 k3 k5 "ValueError.__new__") ∧ ((C = D ∧ bm = veTail) ∨ (C ≠ D ∧ bm = .ref D :: veTail))
  sa : findIn K (.ref C) "__setattr__" = some (some (.builtin "object.__setattr__"))
  ga : findIn K (.ref C) "__getattribute__" = some (some (.builtin "BaseException.__getattribute__"))
  gg : findIn K (.ref C) "__getattr__" = some none
  noN : findIn K (.ref C) "what" = some none
  iC : findIn K (.ref C) "__init__" = some (some (.ref fI))
  tC : typeIn K (.ref fI) = some (.type "function")
  kC : keepIn K (.ref C) = true
theorem refs_ok {D C : Addr} {bm : List Value} (h : (C = D ∧ bm = veTail) ∨ (C ≠ D ∧ bm = .ref D :: veTail)) : refsVE bm = true := by
  rcases h with ⟨_, rfl⟩ | ⟨_, rfl⟩ <;> rfl
/-- what __init__ leaves of a fresh exception at x -/
structure InitEnd (h h' : Heap) (x C dx t1 : Addr) (v : Value) : Prop where
  keep : ∀ b o, b ≠ x → h.get? b = some o → h'.get? b = some o
  obj : h'.get? x = some { cls := .ref C, dict := some dx, data := .fields #[.ref t1, .none, .none, .none, .bool false, .none] }
  dbig : h.objs.size ≤ dx
  dne : dx ≠ x
  ns : h'.Ns1 dx (fun y => if y = "what" then some v else none)
structure OwnMade (h h' : Heap) (e C d : Addr) (v : Value) : Prop where
  keep : ∀ b o, h.get? b = some o → h'.get? b = some o
  new : h.objs.size ≤ e
  obj : ∃ oe vs, h'.get? e = some oe ∧ oe.cls = .ref C ∧ oe.dict = some d ∧ oe.data = .fields vs ∧ vs[1]? = some .none
  dbig : h.objs.size ≤ d
  dne : d ≠ e
  ns : h'.Ns1 d (fun y => if y = "what" then some v else none)
theorem one_size (v : Value) : [v].length ≤ sizeLine := by
  rw [sizeLine_eq]
  exact (by decide : 1 ≤ 16777216)
theorem along_ve (K : W.Frag) : W.alongIn K "__init__" veTail = some (some (.builtin "ValueError.__init__")) := by kernel_rfl
section
variable {prog : Program} {w : World} {A : Around} {E : Value → Shared → Prop} {R : Result → Shared → Prop} {s : Shared} {K : Frag} {mg mb : Str → Option Value} {D C fI : Addr}
/-- super().__init__(..) called: the args are laid anew -/
theorem mw_call {h : Heap} {g : Array GenState} {d : Drawn} {t : Nat} {os : OsState} {nm q : Str} {N : Addr} {bs bm : List Value} {sn : List Str} {sub : List Value} {ab : Bool} {col : Option Bool} {dd : Option Addr} {k0 k1 k2 k3 k5 : Option Value} {u e t0 : Addr} {rest : List Value} {Q : Value → Shared → Prop}
    (hC : h.get? C = some (excClassObj nm q C N bs bm true sn sub ab col dd k0 k1 k2 k3 k5 "ValueError.__new__")) (he : h.get? e = some (excO C t0)) (hu : h.get? u = some (kxs_mw "ValueError.__init__" e)) (hz : rest.length ≤ sizeLine)
    (hq : ∀ h' t1, (∀ b o, b ≠ e → h.get? b = some o → h'.get? b = some o) → h'.get? e = some (excO C t1) → Q .none ⟨h', g, d, t, os⟩) :
    wpAny (model prog w) A (call (.ref u) rest) Q E ⟨h, g, d, t, os⟩ := by
  refine wpAny_call (codeAny_of_tree ?_)
  show wpAny _ A.in1 (callAny (.ref u) ⟨rest, []⟩) _ _ _
  simp only [callAny]
  refine wpAny_bind (wpAny_load hu ?_)
  simp only [kxs_mw, show (Value.type "method-wrapper" == Value.type "method" || Value.type "method-wrapper" == Value.type "builtin_function_or_method" || Value.type "method-wrapper" == Value.type "method-wrapper") = true by decide, if_true]
  refine KFB.if_so (by decide) ?_
  refine wpAny_bind (check_bound_init PySem.F.excBase_ValueError.toExcCallFacts hC he rfl ?_)
  refine wpAny_bind (wpAny_pure (wpAny_pure ?_))
  refine ⟨plainId_quiet PySem.F.excBase_ValueError.init.plain _, codeAny_builtin PySem.F.excBase_ValueError.initEntry ?_⟩
  exact exc_init_tree (cls := .ref C) (t0 := t0) (dv := none) (c2 := .none) (c3 := .none) (b4 := .bool false) he hz fun h' k e' _ => hq h' _ k e'
theorem ref_init (T : RefC prog K D fI) (T2 : RefK K D C fI) {x t0 : Addr} {v : Value} (X : K.In s.heap) (hlim : s.heap.NoLimit) (hg : s.heap.Ns mainGlobals mg) (hms : mg "super" = none) (hb : s.heap.Ns builtinsNs mb) (hbb : ∀ x : Str, x ≠ "__name__" → mb x = bootBuiltins x)
    (hx : s.heap.get? x = some (excO C t0)) (hnx : K.lookup x = none) (hroom : A.depth < recursionLimit)
    (hq : ∀ h' tk dx t1, InitEnd s.heap h' x C dx t1 v → R (.ok (.ret .none)) { s with heap := h', toks := tk }) :
    codeAny (model prog w) A (.call (.ref fI) ⟨[.ref x, v], []⟩) R s := by
  obtain ⟨oc, od, kV, doc, pm, an, ct, osl, cda, cc, ho, hcd, ⟨ccl, cdd, vs, ccs, file, tf, hco, hvs, hfile⟩, cl, cld, csl, hcc⟩ := T.fn
  obtain ⟨nm, q, N, bs, bm, sn, sub, ab, col, dd, k0, k1, k2, k3, k5, hC, hbm⟩ := T2.cls
  obtain ⟨cdD, hD⟩ := T.isD
  have hcl : clsIn K C = some { name := nm, bases := bs, mro := .ref C :: bm, ns := N, qualname := q, hasDict := true, slotNames := sn, subclasses := sub, abstract := ab, collection := col, hasDel := false } := by unfold clsIn; rw [hC] <;> rfl
  obtain ⟨hp, g, d, t, os⟩ := s
  have hxC : x ≠ C := by
    rintro rfl
    have e := X _ _ hC
    rw [hx] at e
    have e2 := congrArg Obj.data (Option.some.inj e)
    cases e2
  refine ks_codeAny_call_defAt (binds := [("self", .ref x), ("what", v)]) hroom (X _ _ ho) rfl hlim (codeRec_of X hcd) rfl (BindsTo.of_eq (by first | rfl | with_unfolding_all rfl)) (by show ∀ x ∈ iS.names, x.2 ≠ .cell; decide) (fun y hy => by
    rcases List.mem_cons.mp hy with rfl | hy
    · rfl
    · rcases List.mem_cons.mp hy with rfl | hy
      · rfl
      · cases hy) (fun h₁ hns k => ?_)
  have hxL : hp.objs.size ≠ x := Nat.ne_of_gt (Heap.lt_size hx)
  have X₁ : K.In h₁ := X.keeps k
  have hx₁ := k _ _ hx
  refine ks_wpAt_execs_cons ?_
  refine ks_wpAt_Expr_any ?_
  show wpAt _ _ _ (eval (.Call (.Attribute (.Call (.Name "super" ⟨5, 8, 5, 13⟩) [] [] ⟨5, 8, 5, 15⟩) "__init__" ⟨5, 8, 5, 24⟩) [.Constant (.str "refused") 0 ⟨5, 25, 5, 34⟩] [] ⟨5, 8, 5, 35⟩) (ksEnv "Refused.__init__" iS hp.objs.size fI (.ref cda) cc)) _ _ _
  refine ks_wpAt_MethodCall ?_
  obtain ⟨oD, hD1, hD2⟩ : ∃ oD, h₁.get? D = some oD ∧ oD.data = .cls cdD := by
    unfold clsIn at hD
    split at hD
    · rename_i c d cd' sl ho
      cases hD
      exact ⟨_, X₁ _ _ ho, rfl⟩
    · cases hD
  have subD : mroIn K C (.ref D) = some true := by
    unfold mroIn
    rw [hcl]
    rcases hbm with ⟨rfl, rfl⟩ | ⟨hne, rfl⟩ <;> simp
  have subV : mroIn K C (.type "ValueError") = some true := by
    unfold mroIn
    rw [hcl]
    rcases hbm with ⟨rfl, rfl⟩ | ⟨hne, rfl⟩ <;> simp
  have hdrop : ((Value.ref C :: bm).dropWhile (· != .ref D)).drop 1 = veTail := by
    rcases hbm with ⟨rfl, rfl⟩ | ⟨hne, rfl⟩
    · simp [List.dropWhile]
    · have c : (Value.ref C != Value.ref D) = true := by simp [hne]
      simp [List.dropWhile, c]
  have I : InstAt h₁ x (excO C t0) C none := ⟨hx₁, rfl, rfl, trivial⟩
  refine ks_wpAt_super_base (env := ksEnv "Refused.__init__" iS hp.objs.size fI (.ref cda) cc) (by rfl) (by rfl) (by decide) rfl (X₁ _ _ ho) rfl rfl rfl (X₁ _ _ hco) rfl hvs hfile T.top ?_
  refine ks_loadName_global rfl (by rfl) (loadGlobal_builtin (env := ksEnv "Refused.__init__" iS hp.objs.size fI (.ref cda) cc) (hg.keeps k) hms (hb.keeps k) ((hbb _ (by decide +kernel)).trans (by first | rfl | decide +kernel)) ⟨rfl, ?_⟩)
  refine wpAny_loadName_free rfl (by rfl) (by rfl) ⟨_, X₁ _ _ hcc, rfl⟩ ?_
  refine wpAny_loadName_local rfl (by rfl) hns (by rfl) ?_
  refine ks_wpAny_isType_cls hD1 hD2 ⟨rfl, ?_⟩
  refine ks_wpAny_call_super hD1 hD2 I.at_ I.cls (fun c e => by cases e) (looks_mroIn X₁ subD) (fun h₂ e2 k2 => ?_)
  have X₂ : K.In h₂ := X₁.keeps k2
  refine kxs_getMethod kxs_ValueError e2 (looks_opaque X₂ T.opq) (l₀ := .ref C :: bm) ((looks_clsIn X₂ hcl).andThen .now) hdrop X₂ (along_ve K) (I.type.keeps k2 |>.andThen (looks_mroIn X₂ subV)) hxC (by decide) ?_
  refine kxs_callWith (i := "ValueError.__init__") (x := x) rfl ?_
  refine evalArgs_plain ?_
  refine Calls.spliced_cons (Calls.Constant_str (k := 0) (pos := ⟨5, 25, 5, 34⟩) (Calls.spliced_nil ?_))
  have hpu := fun (o : Obj) => Heap.get?_push_at (h := h₂) (o := o) rfl
  refine ⟨Heap.get?_push_at rfl rfl, ?_⟩
  have up : ∀ b o, h₂.get? b = some o → (h₂.push (kxs_mw "ValueError.__init__" x)).get? b = some o := fun b o e => Heap.get?_push_of_some _ e
  refine mw_call (up _ _ (X₂ _ _ hC)) (up _ _ (k2 _ _ hx₁)) (Heap.get?_push_at rfl rfl) (one_size _) (fun h₄ t1 k4 hx4 => ?_)
  refine wpAt_of_wpAny ?_
  have old : ∀ b o, b ≠ x → hp.get? b = some o → h₄.get? b = some o := fun b o hb e => k4 b o hb (up b o (k2 b o (k b o e)))
  have oldl : ∀ b o, b ≠ x → h₁.get? b = some o → h₄.get? b = some o := fun b o hb e => k4 b o hb (up b o (k2 b o e))
  have X₄ : K.In h₄ := fun a o e => old a o (fun z => by rw [z, hnx] at e; cases e) (X a o e)
  have hns₄ : h₄.Ns hp.objs.size (fun y => ([("self", Value.ref x), ("what", v)] : List (Str × Value)).reverse.lookup y) := by
    obtain ⟨o, es, ep, e1, r⟩ := hns
    exact ⟨o, es, ep, oldl _ _ hxL e1, r⟩
  refine wpAny_execs_cons (plainObj_wpAny_Assign_Attribute ?_)
  refine wpAny_Name (wpAny_loadName_local rfl (by rfl) hns₄ (by rfl) (wpAny_Name (wpAny_loadName_local rfl (by rfl) hns₄ (by rfl) ?_)))
  refine set_plain X₄ (ox := excO C t1) (od := none) ⟨hx4, rfl, rfl, trivial⟩ T2.sa ?_
  refine exc_osa X₄ hx4 hcl (show refsVE bm = true from refs_ok hbm) rfl T2.noN (fun h₃ tk₃ dx k₃ dn dne hx₃ hn₃ => ?_)
  refine wpAny_execs_nil (hq h₃ tk₃ dx t1 ⟨fun b o hb e => k₃ b o hb (old b o hb e), hx₃, ?_, dne, hn₃⟩)
  have z : hp.objs.size < h₄.objs.size := hns₄.lt
  exact Nat.le_of_lt (Nat.lt_of_lt_of_le z dn)
theorem ref_made (T : RefC prog K D fI) (T2 : RefK K D C fI) {v : Value} (X : K.In s.heap) (hlim : s.heap.NoLimit) (hg : s.heap.Ns mainGlobals mg) (hms : mg "super" = none) (hb : s.heap.Ns builtinsNs mb) (hbb : ∀ x : Str, x ≠ "__name__" → mb x = bootBuiltins x) (hroom : A.depth + 1 < recursionLimit)
    (hq : ∀ h' tk e d, OwnMade s.heap h' e C d v → R (.ok (.ret (.ref e))) { s with heap := h', toks := tk }) :
    codeAny (model prog w) A (.call (.ref C) ⟨[v], []⟩) R s := by
  obtain ⟨nm, q, N, bs, bm, sn, sub, ab, col, dd, k0, k1, k2, k3, k5, hC, hbm⟩ := T2.cls
  have hbm' := refs_ok hbm
  obtain ⟨hp, g, dr, tk, os⟩ := s
  have k : ∀ b o, hp.get? b = some o → ((hp.push (kdv_tup [v])).push (excO C hp.objs.size)).get? b = some o := fun b o e => Heap.get?_push_of_some _ (Heap.get?_push_of_some _ e)
  have hget : ((hp.push (kdv_tup [v])).push (excO C hp.objs.size)).get? (hp.objs.size + 1) = some (excO C hp.objs.size) := by heap_get
  have hnx : K.lookup (hp.objs.size + 1) = none := by
    cases e : K.lookup (hp.objs.size + 1) with
    | none => rfl
    | some o =>
      have z : hp.get? (hp.objs.size + 1) = some o := X _ _ e
      exact absurd (Nat.lt_of_succ_lt (Heap.lt_size z)) (Nat.lt_irrefl _)
  refine call_own PySem.F.excBase_ValueError (fun X => refsVE_contains X bm hbm') (X _ _ hC) (looks_findIn X T2.iC) (fun self => bind_fn X self T2.tC) (one_size v) ?_
  refine ref_init (s := ⟨(hp.push (kdv_tup [v])).push (excO C hp.objs.size), g, dr, tk, os⟩) T T2 (X.keeps k) (hlim.keeps k) (hg.keeps k) hms (hb.keeps k) hbb hget hnx ?_ fun h' tk' dx t1 ⟨k', hx, dn, dne, hns⟩ => ?_
  · show A.depth + 1 < recursionLimit
    exact hroom
  · have old : ∀ b o, hp.get? b = some o → h'.get? b = some o := fun b o e => k' b o (Nat.ne_of_lt (Nat.lt_succ_of_lt (Heap.lt_size e))) (k b o e)
    have z : hp.objs.size + 1 + 1 ≤ dx := by
      first
        | (simpa only [Heap.size_push] using dn)
        | exact dn
        | (have q := dn; rw [Heap.size_push, Heap.size_push] at q; exact q)
    exact ⟨rfl, hq h' tk' (hp.objs.size + 1) dx ⟨old, Nat.le_succ _, ⟨_, _, hx, rfl, rfl, rfl, rfl⟩, Nat.le_trans (Nat.le_trans (Nat.le_succ _) (Nat.le_succ _)) z, dne, hns⟩⟩
end
end RFX
end PySem

/-! Te2: methods of the text's classes; raise of the program's own errors. -/
namespace TV
open PySem PySem.Spec PyProof.Rows L2 PySem.RFX

/-! ### o.m(e, ..) -/
def pIns (c : Nat) : D → Bool
  | .ins k _ => k == c
  | _ => false
def pOf : Opd → D → Bool
  | .var _ p => p
  | .tmp _ p => p
theorem tO_met {G : GG} {W : WX} {o : Opd} {σ : L2.St} {H : Hp} {Q Q' : VK} (h : tO G W o σ H Q) (f : ∀ x H1, Met G (pOf o) x H1 → Q x H1 → Q' x H1) : tO G W o σ H Q' := by
  cases o with
  | var i p => obtain ⟨v, e, m, q⟩ := h; exact ⟨v, e, m, f _ _ m q⟩
  | tmp m p => exact rdE.mono h fun x H1 z => ⟨z.1, f _ _ z.1 z.2⟩
section
variable {X : Cx} {CX : CXT} {k : Nat} {f C : Addr} {fd : FuncData} {ps : List Str} {sp : Sp} {E : L2.St → XK} {m : Str} {pos apos : Pos} {e o : Expr} {es : List Expr} {ta : TE} {t : TA}
def tMethS (C : Addr) (m : Str) (sp : Sp) (E : L2.St → XK) (ta : TE) (t : TA) : TE := fun σ H Q => ta σ H fun x H1 => ∃ a dx fs, x = .ref a ∧ H1 a = some (.ins C dx fs) ∧ fs.lookup m = none ∧ t σ H1 fun vs H2 => sp (x :: vs) H2 Q (E σ)
theorem pe_methS {pl : Sem Bool} (he : PE X o ta) (c : Cls X.K C) (hm : Meth X.K C m f) (F : FnOk X.prog X.w X.K X.mg X.base CX k f fd ps sp) (hr : Room k X.A) (hb : Binds X.K fd ps []) (hx : ∀ σ, PassesAt CX X σ (E σ)) (ha : PA X (e :: es) t)
    (hst : starEach (e :: es) X.env = (false, eval e X.env) :: starEach es X.env := by rfl) (hpl : (backTo pos (starEach es X.env)).any (·.1) = false := by rfl)
    (ht : eval (.Call (.Attribute o m apos) (e :: es) [] pos) X.env = (do
      let ov ← eval o X.env
      standAt apos.atName
      let (f, first) ← holding [ov] (getMethod ov m pl)
      callWith pos f first (backTo pos (starEach (e :: es) X.env)) (backToKw pos (keywordEach [] X.env))) := by rfl) :
    PE X (.Call (.Attribute o m apos) (e :: es) [] pos) (tMethS C m sp E ta t) := by
  refine ⟨fun pins s σ H Q I h => ?_⟩
  refine PySem.W.methodCall_KW (pl := pl) (thn (he.run pins s σ H _ I h) fun u s1 ⟨x, H1, I1, rx, a, dx, fs, ex, ea, l, q⟩ => ?_) ht
  subst ex
  obtain rfl : u = Value.ref a := rx
  refine getmeth_ok I1 ea c hm l ?_
  refine PySem.W.callWith_K (first := [.ref a]) (h₀ := X.base) I.ok.mod.kin hm.kp (thn (ha.run pos pins s1 σ H1 _ I1 q) fun us s2 ⟨vs, H2, I2, r, q2⟩ => ⟨I2.kIn, ?_⟩) hst hpl
  exact run_fnS (us := .ref a :: us) (vs := .ref a :: vs) F hr hb (hx σ) I2 (.cons rfl r) q2
end
/-- the method m of the c-th class does F -/
structure FnMt (P : Program) (w : World) (K : PySem.W.Frag) (mg : Str → Option Value) (base : Heap) (G : GG) (k : Nat) (c : Nat) (m : Str) (ps : List Str) (F : FV) : Prop where
  ex : ∃ f fd, Cls K (G.cl c) ∧ Meth K (G.cl c) m f ∧ FnOk P w K mg base (L2.CX P w) k f fd ps (spV G ps.length F) ∧ Binds K fd ps []
theorem lookup_zip_none {m : Str} : ∀ {ns : List Str} {vs : List V}, m ∉ ns → (ns.zip vs).lookup m = none
  | [], _, _ => rfl
  | _ :: _, [], _ => by simp
  | n :: ns, v :: vs, h => by
    rw [List.mem_cons, not_or] at h
    have q : (m == n) = false := by simpa using h.1
    simp only [List.zip_cons_cons, List.lookup_cons, q]
    exact lookup_zip_none h.2
section
variable {X : Cx} {G : GG} [NoSlot G] {W : WX} {j k c : Nat} {ps : List Str} {m x : Str} {p pos apos pos2 : Pos} {e o a : Expr} {es : List Expr} {os : List Opd} {ro : Opd} {F : FV}
theorem se_meth {pl : Sem Bool} (h : FnMt X.prog X.w X.K X.mg X.base G j c m ps F) (hl : os.length + 1 = ps.length) (hj : j ≤ k) (tk : Takes X W) (hr : Room k X.A) (hno : m ∉ G.nm c) (ho : SO X G W o ro) (hp : pOf ro = pIns c) (ha : SOs X G W (e :: es) os)
    (hst : starEach (e :: es) X.env = (false, eval e X.env) :: starEach es X.env := by rfl) (hpl : (backTo pos (starEach es X.env)).any (·.1) = false := by rfl)
    (ht : eval (.Call (.Attribute o m apos) (e :: es) [] pos) X.env = (do
      let ov ← eval o X.env
      standAt apos.atName
      let (f, first) ← holding [ov] (getMethod ov m pl)
      callWith pos f first (backTo pos (starEach (e :: es) X.env)) (backToKw pos (keywordEach [] X.env))) := by rfl) :
    SE X G W (.Call (.Attribute o m apos) (e :: es) [] pos) (mCall (ro :: os) F) := by
  obtain ⟨f, fd, cl, hm, ok, hb⟩ := h.ex
  rw [← hl] at ok
  refine pe_wk (pe_methS ho cl hm (ok.mono hj) hr hb (fun σ => passAt tk σ) ha hst hpl ht) fun σ H Q q => ?_
  refine tO_met (rdCall q) fun v H1 ⟨d, hd, rs⟩ z => ?_
  rw [hp] at hd
  cases d with
  | ins c2 fs =>
    have e1 : c2 = c := by simpa [pIns] using hd
    subst e1
    have rv : RV G H1 (.ins c2 fs) v := rs
    cases rv with
    | ins h l r => exact ⟨_, _, _, rfl, h, lookup_zip_none hno, z⟩
  | _ => cases hd

/-! ### raise C(e) -/
/-- the c-th class is an error of the program's own, of name x -/
structure FnEx (P : Program) (K : PySem.W.Frag) (mg : Str → Option Value) (G : GG) (x : Str) (c : Nat) : Prop where
  ex : ∃ Df fI, RefC P K Df fI ∧ RefK K Df (G.cl c) fI ∧ mg x = some (.ref (G.cl c)) ∧ mg "super" = none
theorem relO_ref {v : V} {v' : Value} (r : RelV v v') (f : Str) : RelO (List.lookup f [(("what" : Str), v)]) (if f = "what" then some v' else none) := by
  by_cases hw : f = "what"
  · subst hw
    rw [if_pos rfl]
    have q : List.lookup ("what" : Str) [(("what" : Str), v)] = some v := by simp [List.lookup]
    rw [q]
    exact r
  · rw [if_neg hw]
    have qw : (f == ("what" : Str)) = false := by simpa using hw
    have q2 : List.lookup f [(("what" : Str), v)] = none := by simp [List.lookup, qw]
    rw [q2]
    trivial
def tMkRef (C : Addr) (ta : TA) : L2.St → Hp → XK → Prop := fun σ H Q => ta σ H fun vs H1 => ∃ v, vs = [v] ∧ ∀ d, H1 d = none → Q (.ref C) (some d) (upd H1 d (.xd [(("what" : Str), v)]))
theorem pmk_ref {ta : TA} {D C fI : Addr} (T : RefC X.prog X.K D fI) (T2 : RefK X.K D C fI) (hx : X.mg x = some (.ref C)) (hs : X.mg "super" = none) (hr : Room k X.A) (ha : PA X [a] ta) (hg : Gl X x) (hdb : (x == ("__debug__" : Str)) = false := by decide)
    (he : starEach (a :: []) X.env = (false, eval a X.env) :: starEach [] X.env := by rfl) (hpl : (backTo pos (starEach [] X.env)).any (·.1) = false := by rfl) :
    PMk X (.Call (.Name x p) [a] [] pos) (tMkRef C ta) := by
  intro pins s σ H Q I h
  refine wpAny_Call_Name_kw (ld_glob I hg hx ?_ hdb)
  refine PySem.W.callWith_K (h₀ := X.base) I.ok.mod.kin T2.kC (thn (ha.run pos pins s σ H _ I h) fun us s1 hh => ?_) he hpl
  obtain ⟨vs, H1, I1, r1, v, ev, q1⟩ := hh
  subst ev
  refine ⟨I1.kIn, ?_⟩
  cases r1 with
  | cons rv rn =>
    rename_i v' us'
    cases rn
    show wpAny _ _ (call (.ref C) [v']) _ _ _
    have hlim := I1.nolimit
    obtain ⟨mb, hb1, hb2⟩ := I1.mod.blt
    have hgl := I1.mod.glob.keeps I1.bk
    have hbl := hb1.keeps I1.bk
    have r1 : PySem.W.subIn X.K (.ref C) (.type "BaseException") = some true := by
      obtain ⟨nm, q, N, bs, bm, sn, sub, ab, col, dd, k0, k1, k2, k3, k5, hC, hbm⟩ := T2.cls
      have hcl : PySem.W.clsIn X.K C = some { name := nm, bases := bs, mro := .ref C :: bm, ns := N, qualname := q, hasDict := true, slotNames := sn, subclasses := sub, abstract := ab, collection := col, hasDel := false } := by unfold PySem.W.clsIn; rw [hC] <;> rfl
      show PySem.W.mroIn X.K C _ = some true
      unfold PySem.W.mroIn
      rw [hcl]
      rcases hbm with ⟨_, rfl⟩ | ⟨hne, rfl⟩ <;> simp
    have r2 : PySem.W.typeIn X.K (.ref C) = some (.type "type") := by
      obtain ⟨nm, q, N, bs, bm, sn, sub, ab, col, dd, k0, k1, k2, k3, k5, hC, hbm⟩ := T2.cls
      show (List.lookup C X.K).map (·.cls) = _
      rw [hC]
      rfl
    obtain ⟨hp, g, dr, tk, os⟩ := s1
    refine wpAny_call (ref_made T T2 I1.kIn hlim hgl hs hbl hb2 (by have := hr.dp; omega) fun h' tk' e d M => ?_)
    show MkP X pins σ Q (.ref e) ⟨h', g, dr, tk', os⟩
    obtain ⟨oe, fv, hoe, hc, hd, hdat, h1⟩ := M.obj
    have hns := M.ns
    obtain ⟨G', g1, g2⟩ := restrict h' fun b => decide (b ≠ e)
    have gk : ∀ b, b ≠ e → G'.get? b = h'.get? b := fun b hb => g1 b (decide_eq_true hb)
    have ge : G'.get? e = none := g2 e (by simp)
    have old : ∀ b o, hp.get? b = some o → G'.get? b = some o := fun b o q => (gk b (Nat.ne_of_lt (Nat.lt_of_lt_of_le (Heap.lt_size q) M.new))).trans (M.keep b o q)
    have ob : ObjOk X.prog X.w (upd H1 d (.xd [(("what" : Str), v)])) G' d (.xd [(("what" : Str), v)]) :=
      ⟨_, hns.at (fun o q => (gk d M.dne).trans q), fun f => relO_ref rv f⟩
    have J : Inv X pins σ (upd H1 d (.xd [(("what" : Str), v)])) ⟨G', g, dr, tk', os⟩ := I1.laid (t' := tk') old M.dbig ob
    refine ⟨e, oe, fv, ⟨G', g, dr, tk', os⟩, _, .ref C, some d, rfl, J, fun b o q => ?_, ge, hoe, ⟨hc, hd⟩, hdat, h1, ?_, rfl, I1.bare, raises_own r1 r2, q1 d (I1.hok.fresh M.dbig)⟩
    · by_cases hb : b = e
      · have q' : G'.get? b = some o := q
        rw [hb, ge] at q'; cases q'
      · exact (gk b hb).symm.trans q
    · rw [upd_ne (Ne.symm M.dne)]
      exact I1.hok.fresh M.new
def kRaise (c : Nat) : D × Env → R (Out × Env) := fun p => if p.1.own = true then .stuck else .exc c p.1 p.2
def mRaise (c : Nat) (e : ME) : MS := fun ρ => (e ρ).bind (kRaise c)
theorem ss_raise {m : ME} (C : CT X G W) (h : FnEx X.prog X.K X.mg G x c) (hr : Room k X.A) (ha : SE X G W a m) (hg : Gl X x := by rfl) (hdb : (x == ("__debug__" : Str)) = false := by decide)
    (he : starEach (a :: []) X.env = (false, eval a X.env) :: starEach [] X.env := by rfl) (hpl : (backTo pos (starEach [] X.env)).any (·.1) = false := by rfl) :
    SS X G W (.Raise (some (.Call (.Name x p) [a] [] pos)) none pos2) [] (mRaise c m) := by
  obtain ⟨Df, fI, T, T2, hx, hs⟩ := h.ex
  refine ps_wk (ps_raise (C.calm (NoSlot.c (G := G))) C.tk (pmk_ref T T2 hx hs hr (pa_cons ha pa_nil he) hg hdb he hpl)) fun E σ H q => ?_
  obtain ⟨ρ, re, q⟩ := q
  refine ⟨ρ, re, ?_⟩
  have q : postS G W [] ρ σ H E ((m ρ).bind (kRaise c)) := q
  cases em : m ρ with
  | exc c' w ρ' => rw [em] at q; exact q
  | stuck => rw [em] at q; exact q
  | ok pr =>
    rw [em] at q
    obtain ⟨d, ρ1⟩ := pr
    have q : postS G W [] ρ σ H E (if d.own = true then .stuck else .exc c d ρ1) := q
    intro v H1 r1 f1 rs
    by_cases o : d.own = true
    · rw [if_pos o] at q
      exact q.elim
    · rw [if_neg o] at q
      refine ⟨v, rfl, fun dd hd => ?_⟩
      have sm : Same H1 (upd H1 dd (.xd [(("what" : Str), v)])) := fun b u hb => by
        have : b ≠ dd := fun z => by
          subst z
          rw [hd] at hb
          cases hb
        rw [upd_ne this]
        exact hb
      refine q σ _ dd _ v (r1.same sm) (f1.trans (Fr.same sm)) SameBut.refl upd_same (by simp [List.lookup]) ?_
      exact (rs.1.rv (by simpa using o)).mono fun b u hb _ => sm b u hb
end
end TV

/-! Te3: try: .. except C as n: .. except D: .. -/
namespace L2
open PySem PySem.Spec PyProof.Rows
/-- the ends of a suite whose name goes -/
def endN (oi : Option Nat) (D : Ends) : Ends := match oi with
  | none => D
  | some i => { nx := fun σ' H' => D.nx (σ'.set i none) H', rt := D.rt, bk := fun σ' H' => D.bk (σ'.set i none) H', ct := fun σ' H' => D.ct (σ'.set i none) H' }
def atN (oi : Option Nat) (a : Addr) (σ : St) : St := match oi with
  | none => σ
  | some i => σ.set i (some (.ref a))
abbrev HdT := Value × Option Nat × (Addr → Value → Option Addr → TS)
/-- what the clauses wish of an exception of the body -/
def wGen (K : PySem.W.Frag) (Wout : WX) (D : Ends) : List HdT → WX
  | [] => Wout
  | (c, oi, ts) :: r => fun cls d σ H => ∃ b, PySem.W.exmOne K cls c = some b ∧ (b = true → ∀ a, H a = none → ts a cls d (endN oi D) (atN oi a σ) H) ∧ (b = false → wGen K Wout D r cls d σ H)
inductive HdG (X : Cx) : List ExceptHandler → List HdT → Prop
  | nil : HdG X [] []
  | bare {x : Str} {c : Value} {ts : Addr → Value → Option Addr → TS} {b₀ : Stmt} {suite : List Stmt} {np pos' : Pos} {hds : List ExceptHandler} {l : List HdT} (hc : Names X x c)
      (hsu : ∀ (a : Addr) (oe : Obj) (cls : Value) (d : Option Addr) (pn : List (Addr × Obj)), Zc cls d oe → (∃ vs, oe.data = .fields vs) → PSs (X.suite a ((a, oe) :: pn)) (b₀ :: suite) (ts a cls d)) (r : HdG X hds l) :
      HdG X (.ExceptHandler (some (.Name x np)) none (b₀ :: suite) pos' :: hds) ((c, none, ts) :: l)
  | named {x n : Str} {i : Nat} {c : Value} {ts : Addr → Value → Option Addr → TS} {b₀ : Stmt} {suite : List Stmt} {np pos' : Pos} {hds : List ExceptHandler} {l : List HdT} (hc : Names X x c) (hi : X.N[i]? = some n) (hln : X.env.kindOf n = some .local)
      (hsu : ∀ (a : Addr) (oe : Obj) (cls : Value) (d : Option Addr) (pn : List (Addr × Obj)), Zc cls d oe → (∃ vs, oe.data = .fields vs) → PSs (X.suite a ((a, oe) :: pn)) (b₀ :: suite) (ts a cls d)) (r : HdG X hds l) :
      HdG X (.ExceptHandler (some (.Name x np)) (some n) (b₀ :: suite) pos' :: hds) ((c, some i, ts) :: l)
section
variable {X : Cx} {body : List Stmt} {h₀ : ExceptHandler} {hds : List ExceptHandler} {l : List HdT} {pos : Pos} {tb : WX → TS} {Wout : WX}
theorem ps_try_gen (hs : X.stack = X.env :: X.outer) (hf : X.env.frame = some X.env.locals) (hN : X.N.Nodup) (tk : Takes X Wout)
    (hb : ∀ (W : WX) (pn : List (Addr × Obj)) (xe : Value → Shared → Prop), Takes (X.tr pn xe) W → PassesOwn (model X.prog X.w) X.A X.env xe → PSs (X.tr pn xe) body (tb W))
    (hh : HdG X (h₀ :: hds) l) : PS X (.Try body (h₀ :: hds) [] [] pos) (fun D σ H => tb (wGen X.K Wout D l) D σ H) := by
  refine ⟨fun pins s σ H D I h => ?_⟩
  have ok := I.ok
  have hfr : X.A.frames = some (X.env :: X.outer) := by rw [ok.frames, hs]
  refine wpAny_Try_except ?_
  refine wpAny_mono ((hb (wGen X.K Wout D l) (X.pn ++ pins) (fun e s₁ => wpAny (model X.prog X.w) X.A (noteFrame e X.env) (fun _ s₂ => wpAny (model X.prog X.w) X.A (setFlight e none) (fun _ s₃ =>
    wpAny (model X.prog X.w) X.A (handleBy e X.env (h₀ :: hds)) (SP X pins D) X.xe s₃) X.xe s₂) X.xe s₁) (fun u s' xx => ?_) PassesOwn.looking).run [] s σ H D (I.toTry _) h) (fun f s1 hsp => ?_) (fun e s1 he => he)
  · obtain ⟨a, B, sI, pins', σ', H', cls, d, rfl, J', nb, up, sky, na, os, ag, w⟩ := xx
    have J : Inv X pins σ' H' sI := J'.ofTry ok
    have sky' : Sky B (X.env :: X.outer) a (Zc cls d) X.env.locals s'.heap := by rw [← hs]; exact sky
    show wpAny (model X.prog X.w) X.A (noteFrame (.ref a) X.env) _ _ _
    refine Sky.land Zc.steady hfr hf sky' fun h3 fl3 up3 => ?_
    have J3 : Inv X pins σ' H' { s' with heap := h3 } := J.landed nb fl3.1 (up.trans up3) os ag
    obtain ⟨oe3, vs3, he3, hz3, hd3⟩ := fl3.there
    have notFr : ∀ {h : Heap} {o : Obj} {vs : Array Value}, h.FunFrames B (X.env :: X.outer) → h.get? a = some o → o.data = .fields vs → a ∉ frs (X.env :: X.outer) := fun {h o vs} ff e dd hm => by
      obtain ⟨_, o', e', hnf⟩ := ff.mem hm
      rw [e] at e'; cases e'
      exact hnf _ dd
    have nfr := notFr fl3.2.2.1 he3 hd3
    have nL : a ≠ X.env.locals := fun z => nfr (List.mem_filterMap.mpr ⟨X.env, List.mem_cons_self, by rw [hf, z]⟩)
    have nF : a ∉ X.fs := fun hm => by
      obtain ⟨e, he, q⟩ := List.mem_filterMap.mp hm
      exact nfr (List.mem_filterMap.mpr ⟨e, List.mem_cons_of_mem _ he, q⟩)
    have S3 := J3.suite he3 hd3 na nL nF
    have tst : ∀ {x : Str} {c : Value} {np : Pos}, Names X x c → ∀ {Q : Value → Shared → Prop} {E : Value → Shared → Prop}, Q c { s' with heap := h3 } → wpAny (model X.prog X.w) (X.A.mark (some (.ref a))) (eval (.Name x np) X.env) Q E { s' with heap := h3 } := fun {x c np} hc {Q E} q => by
      obtain ⟨hg, hdbg, hm | ⟨hm, hv, hnn⟩⟩ := hc
      · exact ld_glob (X := X.suite a ((a, oe3) :: (X.pn ++ pins))) S3 hg hm q hdbg
      · exact ld_blt (X := X.suite a ((a, oe3) :: (X.pn ++ pins))) S3 hg hm hv q hnn hdbg
    have go : ∀ {hds' : List ExceptHandler} {l' : List HdT}, HdG X hds' l' → wGen X.K Wout D l' cls d σ' H' →
        wpAny (model X.prog X.w) X.A (handleBy (.ref a) X.env hds') (SP X pins D) X.xe { s' with heap := h3 } := by
      intro hds' l' hk
      induction hk with
      | nil =>
        intro w
        refine wpAny_handleBy_nil ?_
        obtain ⟨k1, k2, k3, oe, vs, T, oT, ts', he, hz, hd, h1, hr⟩ := id fl3
        unfold PySem.passOn
        refine wpAny_bind (wpAny_field he hd h1 ?_)
        rw [if_neg (show ¬ ((Value.ref T == Value.none) = true) from by simp)]
        have fin : wpAny (model X.prog X.w) X.A (setFlight (.ref a) X.env.frame) (fun _ s4 => wpAny (model X.prog X.w) X.A (throw (.ref a) : Sem Flow) (SP X pins D) X.xe s4) X.xe { s' with heap := h3 } := by
          rw [hf]
          refine HandSPX.setFlight_upZ fl3 fun h4 hh4 up4 => wpAny_throw (tk _ _ ?_)
          exact ⟨a, B, sI, pins, σ', H', cls, d, rfl, J, nb, (up.trans up3).trans up4, .inr (.inr (by rw [hs]; exact hh4)), na, os, ag, w⟩
        first
          | exact wpAny_bind (wpAny_pure (wpAny_bind fin))
          | exact wpAny_bind fin
      | @bare x c ts b₀ suite np pos' hds2 l2 hc hsu r ih =>
        intro w
        obtain ⟨b, hb1, hyes, hno⟩ := w
        refine wpAny_handleBy_cons (codeAny_handlers_test ?_) (by intro q; cases q)
        have LT : PySem.W.Looks (model X.prog X.w) h3 (typeOf (.ref a)) cls := fun A Q E s k q => wpAny_typeOf_ref (k _ _ he3) (by rw [hz3.1]; exact q)
        have LM := PySem.W.exm_one (M := model X.prog X.w) (J3.kIn) LT hb1
        refine tst hc (LM.here ?_)
        cases b with
        | true =>
          refine codeAny_handlers_suite ?_
          refine HandSPX.lands_againZ fl3 fun h4 fl4 up4 => ?_
          have J4 : Inv X pins σ' H' { s' with heap := h4 } := J.landed nb fl4.1 ((up.trans up3).trans up4) os ag
          obtain ⟨oe4, vs4, he4, hz4, hd4⟩ := fl4.there
          have S4 := J4.suite he4 hd4 na nL nF
          refine wpAny_mono ((hsu a oe4 cls d (X.pn ++ pins) hz4 ⟨_, hd4⟩).run [] _ _ H' _ S4 (hyes rfl a na)) (fun f s6 hsp => ?_) (fun _ _ z => False.elim z)
          cases f with
          | next =>
            obtain ⟨σ6, H6, S6, q6⟩ := hsp
            exact ⟨_, _, S6.unsuite ok, q6⟩
          | brk =>
            obtain ⟨σ6, H6, S6, q6⟩ := hsp
            exact ⟨_, _, S6.unsuite ok, q6⟩
          | cont =>
            obtain ⟨σ6, H6, S6, q6⟩ := hsp
            exact ⟨_, _, S6.unsuite ok, q6⟩
          | ret u =>
            obtain ⟨v6, σ6, H6, S6, r6, q6⟩ := hsp
            exact ⟨_, _, _, S6.unsuite ok, r6, q6⟩
        | false =>
          show wpAny _ X.A (handleBy (.ref a) X.env hds2) _ _ _
          exact ih (hno rfl)
      | @named x n i c ts b₀ suite np pos' hds2 l2 hc hi hln hsu r ih =>
        intro w
        obtain ⟨b, hb1, hyes, hno⟩ := w
        have hloc : Loc X.env.scope n := .inl hln
        refine wpAny_handleBy_cons (codeAny_handlers_test ?_) (by intro q; cases q)
        have LT : PySem.W.Looks (model X.prog X.w) h3 (typeOf (.ref a)) cls := fun A Q E s k q => wpAny_typeOf_ref (k _ _ he3) (by rw [hz3.1]; exact q)
        have LM := PySem.W.exm_one (M := model X.prog X.w) (J3.kIn) LT hb1
        refine tst hc (LM.here ?_)
        cases b with
        | true =>
          refine codeAny_handlers_suite_as ?_
          refine HandSPX.lands_againZ fl3 fun h4 fl4 up4 => ?_
          have J4 : Inv X pins σ' H' { s' with heap := h4 } := J.landed nb fl4.1 ((up.trans up3).trans up4) os ag
          obtain ⟨oe4, vs4, he4, hz4, hd4⟩ := fl4.there
          have S4 := J4.suite he4 hd4 na nL nF
          refine store_ok (X := X.suite a ((a, oe4) :: (X.pn ++ pins))) (v := .ref a) S4 hN hi hloc rfl (fun s5 S5 => ?_) (.inr hln)
          refine wpAny_mono ((hsu a oe4 cls d (X.pn ++ pins) hz4 ⟨_, hd4⟩).run [] s5 _ H' _ S5 (hyes rfl a na)) (fun f s6 hsp => ?_) (fun _ _ z => False.elim z)
          have end_ : ∀ {σ6 : St} {H6 : Hp} {Q : Shared → Prop}, Inv (X.suite a ((a, oe4) :: (X.pn ++ pins))) [] σ6 H6 s6 → (∀ s7, Inv X pins (σ6.set i none) H6 s7 → Q s7) →
              wpAny (model X.prog X.w) X.A (do bindName X.env n .none; unbindBehindTheSuite X.env n pos') (fun _ s7 => Q s7) X.xe s6 := fun {σ6 H6 Q} S6 hq => gone_ok (S6.unsuite ok) hN hi hln hq
          cases f with
          | next =>
            obtain ⟨σ6, H6, S6, q6⟩ := hsp
            exact end_ S6 fun s7 J7 => ⟨_, _, J7, q6⟩
          | brk =>
            obtain ⟨σ6, H6, S6, q6⟩ := hsp
            exact end_ S6 fun s7 J7 => ⟨_, _, J7, q6⟩
          | cont =>
            obtain ⟨σ6, H6, S6, q6⟩ := hsp
            exact end_ S6 fun s7 J7 => ⟨_, _, J7, q6⟩
          | ret u =>
            obtain ⟨v6, σ6, H6, S6, r6, q6⟩ := hsp
            exact end_ S6 fun s7 J7 => ⟨_, _, _, J7, r6, q6⟩
        | false =>
          show wpAny _ X.A (handleBy (.ref a) X.env hds2) _ _ _
          exact ih (hno rfl)
    exact go hh w
  · cases f with
    | next =>
      obtain ⟨σ', H', J', q⟩ := hsp
      exact wpAny_execs_nil ⟨σ', H', J'.ofTry ok, q⟩
    | brk =>
      obtain ⟨σ', H', J', q⟩ := hsp
      exact ⟨σ', H', J'.ofTry ok, q⟩
    | cont =>
      obtain ⟨σ', H', J', q⟩ := hsp
      exact ⟨σ', H', J'.ofTry ok, q⟩
    | ret u =>
      obtain ⟨v, σ', H', J', r, q⟩ := hsp
      exact ⟨v, σ', H', J'.ofTry ok, r, q⟩
end
end L2

/-! Te4: try on environments. -/
namespace TV
open PySem PySem.Spec PyProof.Rows L2 PySem.RFX

/-- in a suite: the exception's dict stands and keeps what was told; the exception is in slot oi -/
def GP (G : GG) (oi : Option Nat) (a dd : Addr) (fs : List (Str × V)) (w : D) (v : V) : GG where
  K := G.K
  cl := G.cl
  nm := G.nm
  pin := fun H => G.pin H ∧ H dd = some (.xd fs) ∧ RV G H w v
  pinOk := fun H H' k z => ⟨G.pinOk H H' k z.1, k _ _ z.2.1 rfl, z.2.2.mono k⟩
  slot := oi
  sval := .ref a
  hot := true
section
variable {G : GG} {oi : Option Nat} {a dd : Addr} {fs : List (Str × V)} {w : D} {v : V}
theorem RE.toP {ρ : Env} {σ : L2.St} {H : Hp} (r : RE G ρ σ H) (h1 : H dd = some (.xd fs)) (h2 : RV G H w v) (h3 : ∀ i, oi = some i → σ[i]? = some (some (.ref a))) : RE (GP G oi a dd fs w v) ρ σ H :=
  RE.re (G := G) (G' := GP G oi a dd fs w v) rfl rfl rfl ⟨r.pin, h1, h2⟩ h3 r
theorem RE.ofP [NoSlot G] {ρ : Env} {σ : L2.St} {H : Hp} (r : RE (GP G oi a dd fs w v) ρ σ H) : RE G ρ σ H := RE.re (G := GP G oi a dd fs w v) (G' := G) rfl rfl rfl r.pin.1 RE.noSpin r
end
/-! ### what is asked of the exception -/
section
variable {X : Cx} {G : GG} {W : WX} {i c : Nat} {a dd : Addr} {fs : List (Str × V)} {w : D} {v : V} {oe : Obj} {pn : List (Addr × Obj)} {x : Str} {p pos : Pos}
/-- e.what -/
theorem se_what (hi : X.N[i]? = some x) (hv : PE (X.suite a ((a, oe) :: pn)) (.Name x p) (tVar i)) (T : XfC X.K (G.cl c)) (hno : PySem.W.findIn X.K (.ref (G.cl c)) "what" = some none) (hz : Zc (.ref (G.cl c)) (some dd) oe) (hf : ∃ vs, oe.data = .fields vs) (hl : fs.lookup ("what" : Str) = some v)
    (hb : attributeBase (.Name x p) "what" (X.suite a ((a, oe) :: pn)).env (eval (.Name x p) (X.suite a ((a, oe) :: pn)).env) = eval (.Name x p) (X.suite a ((a, oe) :: pn)).env := by rfl) :
    SE (X.suite a ((a, oe) :: pn)) (GP G (some i) a dd fs w v) W (.Attribute (.Name x p) "what" pos) (mC w) := by
  refine pe_wk (pe_xf T hno hz hf hv hb) fun σ H Q q => ?_
  obtain ⟨ρ, re, q⟩ := q
  refine ⟨.ref a, re.spin i rfl, rfl, rfl, dd, fs, v, rfl, re.pin.2.1, hl, ?_⟩
  exact q v H re Fr.refl (Res.of_rv (RV.re (G := G) (G' := GP G (some i) a dd fs w v) rfl rfl rfl re.pin.2.2))
end
/-! ### try -/
abbrev HdM := Nat × Option Nat × (Nat → D → MS)
def dropN (oi : Option Nat) (ρ : Env) : Env := match oi with
  | none => ρ
  | some i => ρ.set i none
def dropS (oi : Option Nat) (σ : L2.St) : L2.St := match oi with
  | none => σ
  | some i => σ.set i none
def sEnd (oi : Option Nat) : R (Out × Env) → R (Out × Env)
  | .ok p => .ok (p.1, dropN oi p.2)
  | _ => .stuck
def inR (oi : Option Nat) (ρ : Env) : Bool := match oi with
  | none => true
  | some i => decide (i < ρ.length)
def hdl (sb : Nat → Nat → Bool) : List HdM → Nat → D → Env → R (Out × Env)
  | [], c, w, ρ => .exc c w ρ
  | (j, oi, hm) :: r, c, w, ρ => if sb c j = true then chk (inR oi ρ) (sEnd oi (hm c w (dropN oi ρ))) else hdl sb r c w ρ
def kTry (sb : Nat → Nat → Bool) (kn : List Nat) (hs : List HdM) : R (Out × Env) → R (Out × Env)
  | .ok p => .ok p
  | .exc c w ρ => if kn.contains c = true then hdl sb hs c w ρ else .stuck
  | .stuck => .stuck
def mTry (sb : Nat → Nat → Bool) (kn : List Nat) (m : MS) (hs : List HdM) : MS := fun ρ => kTry sb kn hs (m ρ)
inductive HdS (X : Cx) (G : GG) (B kn : List Nat) : List ExceptHandler → List HdM → Prop
  | nil : HdS X G B kn [] []
  | bare {x : Str} {j : Nat} {hm : Nat → D → MS} {b₀ : Stmt} {suite : List Stmt} {np pos' : Pos} {hds : List ExceptHandler} {l : List HdM} (hc : Names X x (.ref (G.cl j)))
      (hsu : ∀ (a : Addr) (oe : Obj) (pn : List (Addr × Obj)) (c : Nat) (w : D) (dd : Addr) (fs : List (Str × V)) (v : V), Zc (.ref (G.cl c)) (some dd) oe → (∃ vs, oe.data = .fields vs) → fs.lookup ("what" : Str) = some v → c ∈ kn → SSs (X.suite a ((a, oe) :: pn)) (GP G none a dd fs w v) WF (b₀ :: suite) B (hm c w)) (r : HdS X G B kn hds l) :
      HdS X G B kn (.ExceptHandler (some (.Name x np)) none (b₀ :: suite) pos' :: hds) ((j, none, hm) :: l)
  | named {x n : Str} {i j : Nat} {hm : Nat → D → MS} {b₀ : Stmt} {suite : List Stmt} {np pos' : Pos} {hds : List ExceptHandler} {l : List HdM} (hc : Names X x (.ref (G.cl j))) (hi : X.N[i]? = some n) (hln : X.env.kindOf n = some .local) (hB : i ∈ B)
      (hsu : ∀ (a : Addr) (oe : Obj) (pn : List (Addr × Obj)) (c : Nat) (w : D) (dd : Addr) (fs : List (Str × V)) (v : V), Zc (.ref (G.cl c)) (some dd) oe → (∃ vs, oe.data = .fields vs) → fs.lookup ("what" : Str) = some v → c ∈ kn → SSs (X.suite a ((a, oe) :: pn)) (GP G (some i) a dd fs w v) WF (b₀ :: suite) B (hm c w)) (r : HdS X G B kn hds l) :
      HdS X G B kn (.ExceptHandler (some (.Name x np)) (some n) (b₀ :: suite) pos' :: hds) ((j, some i, hm) :: l)
/-- the wish of a clause -/
def tsH (G : GG) (B kn : List Nat) (oi : Option Nat) (hm : Nat → D → MS) (a : Addr) (cls : Value) (d : Option Addr) : TS := fun E σ H =>
  ∃ (c : Nat) (w : D) (dd : Addr) (fs : List (Str × V)) (v : V), cls = .ref (G.cl c) ∧ d = some dd ∧ fs.lookup ("what" : Str) = some v ∧ c ∈ kn ∧ rdS (GP G oi a dd fs w v) WF B (hm c w) E σ H
def tsL (G : GG) (B kn : List Nat) (l : List HdM) : List HdT := l.map fun h => (.ref (G.cl h.1), h.2.1, tsH G B kn h.2.1 h.2.2)
theorem hdS_G {X : Cx} {G : GG} {B kn : List Nat} : ∀ {hds : List ExceptHandler} {l : List HdM}, HdS X G B kn hds l → HdG X hds (tsL G B kn l)
  | _, _, .nil => .nil
  | _, _, .bare hc hsu r => .bare hc (fun a oe cls d pn hz hf => ⟨fun pins s σ H E I ⟨c, w, dd, fs, v, e1, e2, e3, e4, q⟩ => by
      subst e1
      subst e2
      exact (hsu a oe pn c w dd fs v hz hf e3 e4).run pins s σ H E I q⟩) (hdS_G r)
  | _, _, .named hc hi hln _ hsu r => .named hc hi hln (fun a oe cls d pn hz hf => ⟨fun pins s σ H E I ⟨c, w, dd, fs, v, e1, e2, e3, e4, q⟩ => by
      subst e1
      subst e2
      exact (hsu a oe pn c w dd fs v hz hf e3 e4).run pins s σ H E I q⟩) (hdS_G r)
theorem hdS_slots {X : Cx} {G : GG} {B kn : List Nat} : ∀ {hds : List ExceptHandler} {l : List HdM}, HdS X G B kn hds l → ∀ h ∈ l, ∀ i, h.2.1 = some i → i ∈ B
  | _, _, .nil => fun h m => nomatch m
  | _, _, .bare _ _ r => fun h m i e => by
    rcases List.mem_cons.mp m with rfl | m
    · cases e
    · exact hdS_slots r h m i e
  | _, _, .named _ _ _ hB _ r => fun h m i e => by
    rcases List.mem_cons.mp m with rfl | m
    · cases e; exact hB
    · exact hdS_slots r h m i e
theorem hdl_ok {K : PySem.W.Frag} {G : GG} [NoSlot G] {W : WX} {A B kn : List Nat} {sb : Nat → Nat → Bool} {E : Ends} {ρ ρ1 : Env} {σ σ1 : L2.St} {H H1 : Hp} {c : Nat} {w : D} {dd : Addr} {fs : List (Str × V)} {v : V} (hkn : c ∈ kn) (r : RE G ρ1 σ1 H1) (f : Fr ρ σ H ρ1 σ1 H1) (s : SameBut (A ++ B) σ σ1) (h1 : H1 dd = some (.xd fs)) (h2 : fs.lookup ("what" : Str) = some v) (h3 : RV G H1 w v) :
    ∀ {l : List HdM}, (∀ h ∈ l, PySem.W.exmOne K (.ref (G.cl c)) (.ref (G.cl h.1)) = some (sb c h.1)) → (∀ h ∈ l, ∀ i, h.2.1 = some i → i ∈ B) → postS G W (A ++ B) ρ σ H E (hdl sb l c w ρ1) → wGen K W E (tsL G B kn l) (.ref (G.cl c)) (some dd) σ1 H1
  | [], _, _, q => q σ1 H1 dd fs v r f s h1 h2 h3
  | (j, oi, hm) :: l, he, hi, q => by
    refine ⟨sb c j, he _ List.mem_cons_self, fun hb a ha => ?_, fun hb => ?_⟩
    · unfold hdl at q
      rw [if_pos hb] at q
      unfold chk at q
      split at q
      case isFalse => exact q.elim
      rename_i hin
      have hi0 : ∀ i, oi = some i → i ∈ B ∧ i < σ1.length := fun i e => ⟨hi _ List.mem_cons_self i e, by
        subst e
        rw [← r.len]
        exact of_decide_eq_true hin⟩
      refine ⟨c, w, dd, fs, v, rfl, rfl, h2, hkn, ?_⟩
      have rS : RE G (dropN oi ρ1) (atN oi a σ1) H1 := by
        cases oi with
        | none => exact r
        | some i =>
          refine ⟨by show (ρ1.set i none).length = (σ1.set i _).length; rw [List.length_set, List.length_set]; exact r.len, fun j d e => ?_, fun j k x y b e1 e2 o1 o2 s1 s2 => ?_, r.pin, RE.noSpin⟩
          · have e : (ρ1.set i none)[j]? = some (some d) := e
            have hj : j ≠ i := fun z => by
              subst z
              rw [List.getElem?_set] at e
              split at e
              · split at e <;> cases e
              · rename_i n; exact n rfl
            rw [List.getElem?_set_ne (Ne.symm hj)] at e
            obtain ⟨u, e1, q1⟩ := r.val j d e
            exact ⟨u, by show (σ1.set i _)[j]? = _; rw [List.getElem?_set_ne (Ne.symm hj)]; exact e1, q1⟩
          · have e1 : (ρ1.set i none)[j]? = some (some x) := e1
            have e2 : (ρ1.set i none)[k]? = some (some y) := e2
            have hj : j ≠ i := fun z => by
              subst z
              rw [List.getElem?_set] at e1
              split at e1
              · split at e1 <;> cases e1
              · rename_i n; exact n rfl
            have hk : k ≠ i := fun z => by
              subst z
              rw [List.getElem?_set] at e2
              split at e2
              · split at e2 <;> cases e2
              · rename_i n; exact n rfl
            rw [List.getElem?_set_ne (Ne.symm hj)] at e1
            rw [List.getElem?_set_ne (Ne.symm hk)] at e2
            have s1 : (σ1.set i _)[j]? = _ := s1
            have s2 : (σ1.set i _)[k]? = _ := s2
            rw [List.getElem?_set_ne (Ne.symm hj)] at s1
            rw [List.getElem?_set_ne (Ne.symm hk)] at s2
            exact r.sep j k x y b e1 e2 o1 o2 s1 s2
      have rP : RE (GP G oi a dd fs w v) (dropN oi ρ1) (atN oi a σ1) H1 := rS.toP h1 h3 fun i e => by
        subst e
        show (σ1.set i _)[i]? = _
        rw [List.getElem?_set_self (hi0 i rfl).2]
      refine ⟨dropN oi ρ1, rP, ?_⟩
      -- owned: not more
      have oN : ∀ b, own (dropN oi ρ1) (atN oi a σ1) b → own ρ1 σ1 b := fun b ⟨j, d, e1, e2, e3⟩ => by
        cases oi with
        | none => exact ⟨j, d, e1, e2, e3⟩
        | some i =>
          have e1 : (ρ1.set i none)[j]? = some (some d) := e1
          have hj : j ≠ i := fun z => by
            subst z
            rw [List.getElem?_set] at e1
            split at e1
            · split at e1 <;> cases e1
            · rename_i n; exact n rfl
          rw [List.getElem?_set_ne (Ne.symm hj)] at e1
          have e3 : (σ1.set i _)[j]? = _ := e3
          rw [List.getElem?_set_ne (Ne.symm hj)] at e3
          exact ⟨j, d, e1, e2, e3⟩
      have fN : Fr ρ σ H (dropN oi ρ1) (atN oi a σ1) H1 := fun b o hb n => ⟨(f b o hb n).1, fun z => (f b o hb n).2 (oN b z)⟩
      have sN : SameBut B σ1 (atN oi a σ1) := fun k hk => by
        cases oi with
        | none => rfl
        | some i =>
          show (σ1.set i _)[k]? = _
          rw [List.getElem?_set_ne fun e => hk (by rw [← e]; exact (hi0 i rfl).1)]
      -- behind the suite
      have bk : ∀ {ρ2 : Env} {σ2 : L2.St} {H2 : Hp}, RE (GP G oi a dd fs w v) ρ2 σ2 H2 → Fr (dropN oi ρ1) (atN oi a σ1) H1 ρ2 σ2 H2 → SameBut B (atN oi a σ1) σ2 →
          RE G (dropN oi ρ2) (dropS oi σ2) H2 ∧ Fr ρ σ H (dropN oi ρ2) (dropS oi σ2) H2 ∧ SameBut (A ++ B) σ (dropS oi σ2) ∧ (∀ b, own (dropN oi ρ2) (dropS oi σ2) b → own ρ2 σ2 b) := fun {ρ2 σ2 H2} r2 f2 s2 => by
        have r3 := r2.ofP
        have s3 : SameBut (A ++ B) σ σ2 := fun k hk => by
          have hB : k ∉ B := fun z => hk (List.mem_append_right _ z)
          rw [s2 k hB, sN k hB, s k hk]
        cases oi with
        | none => exact ⟨r3, fN.trans f2, s3, fun b z => z⟩
        | some i =>
          have get : ∀ {k : Nat} {x : D}, (ρ2.set i none)[k]? = some (some x) → k ≠ i ∧ ρ2[k]? = some (some x) := fun {k x} e => by
            have hk : k ≠ i := fun z => by
              subst z
              rw [List.getElem?_set] at e
              split at e
              · split at e <;> cases e
              · rename_i n; exact n rfl
            rw [List.getElem?_set_ne (Ne.symm hk)] at e
            exact ⟨hk, e⟩
          have ow : ∀ b, own (ρ2.set i none) (σ2.set i none) b → own ρ2 σ2 b := fun b ⟨k, x, e1, e2, e3⟩ => by
            obtain ⟨hk, e1⟩ := get e1
            rw [List.getElem?_set_ne (Ne.symm hk)] at e3
            exact ⟨k, x, e1, e2, e3⟩
          refine ⟨⟨by show (ρ2.set i none).length = (σ2.set i none).length; rw [List.length_set, List.length_set]; exact r3.len, fun k x e => ?_, fun k m x y b e1 e2 o1 o2 t1 t2 => ?_, r3.pin, RE.noSpin⟩, fun b o hb n => ⟨((fN.trans f2) b o hb n).1, fun z => ((fN.trans f2) b o hb n).2 (ow b z)⟩, fun k hk => ?_, ow⟩
          · obtain ⟨hk, e⟩ := get e
            obtain ⟨u, e1, q1⟩ := r3.val k x e
            exact ⟨u, by show (σ2.set i none)[k]? = _; rw [List.getElem?_set_ne (Ne.symm hk)]; exact e1, q1⟩
          · obtain ⟨hk, e1⟩ := get e1
            obtain ⟨hm, e2⟩ := get e2
            have t1 : (σ2.set i none)[k]? = _ := t1
            have t2 : (σ2.set i none)[m]? = _ := t2
            rw [List.getElem?_set_ne (Ne.symm hk)] at t1
            rw [List.getElem?_set_ne (Ne.symm hm)] at t2
            exact r3.sep k m x y b e1 e2 o1 o2 t1 t2
          · show (σ2.set i none)[k]? = _
            rw [List.getElem?_set_ne fun e => hk (List.mem_append_right _ (by rw [← e]; exact (hi0 i rfl).1))]
            exact s3 k hk
      show postS (GP G oi a dd fs w v) WF B (dropN oi ρ1) (atN oi a σ1) H1 (endN oi E) (hm c w (dropN oi ρ1))
      cases em : hm c w (dropN oi ρ1) with
      | exc c2 w2 ρ2 => rw [em] at q; exact q.elim
      | stuck => rw [em] at q; exact q.elim
      | ok p =>
        rw [em] at q
        obtain ⟨o, ρ2⟩ := p
        cases o with
        | nx =>
          intro σ2 H2 r2 f2 s2
          obtain ⟨b1, b2, b3, _⟩ := bk r2 f2 s2
          have z := q _ H2 b1 b2 b3
          cases oi <;> exact z
        | bk =>
          intro σ2 H2 r2 f2 s2
          obtain ⟨b1, b2, b3, _⟩ := bk r2 f2 s2
          have z := q _ H2 b1 b2 b3
          cases oi <;> exact z
        | ct =>
          intro σ2 H2 r2 f2 s2
          obtain ⟨b1, b2, b3, _⟩ := bk r2 f2 s2
          have z := q _ H2 b1 b2 b3
          cases oi <;> exact z
        | rt d =>
          intro u σ2 H2 r2 f2 s2 rs
          obtain ⟨b1, b2, b3, b4⟩ := bk r2 f2 s2
          have rs1 : Res G ρ σ H ρ2 σ2 H2 d u := (Res.re (G := GP G oi a dd fs w v) (G' := G) rfl rfl rfl rs).ahead fN
          have z := q u _ H2 b1 b2 b3 ⟨rs1.1, fun b e o => ⟨fun k => (rs1.2 b e o).1 (b4 b k), (rs1.2 b e o).2⟩⟩
          cases oi <;> exact z
    · unfold hdl at q
      rw [if_neg (by rw [hb]; exact Bool.false_ne_true)] at q
      exact hdl_ok hkn r f s h1 h2 h3 (fun h m => he h (List.mem_cons_of_mem _ m)) (fun h m => hi h (List.mem_cons_of_mem _ m)) q
theorem ss_try {X : Cx} {G : GG} [NoSlot G] {W : WX} {A B : List Nat} {sb : Nat → Nat → Bool} {kn : List Nat} {body : List Stmt} {h₀ : ExceptHandler} {hds : List ExceptHandler} {pos : Pos} {m : MS} {l : List HdM} (C : CT X G W) (hs : X.stack = X.env :: X.outer) (hf : X.env.frame = some X.env.locals)
    (hx : ∀ c ∈ kn, ∀ j ∈ l.map (·.1), PySem.W.exmOne X.K (.ref (G.cl c)) (.ref (G.cl j)) = some (sb c j))
    (hb : ∀ (W' : WX) (pn : List (Addr × Obj)) (xe : Value → Shared → Prop), CT (X.tr pn xe) G W' → SSs (X.tr pn xe) G W' body A m)
    (hh : HdS X G B kn (h₀ :: hds) l) : SS X G W (.Try body (h₀ :: hds) [] [] pos) (A ++ B) (mTry sb kn m l) := by
  refine ⟨fun pins s σ H E I q => ?_⟩
  refine (ps_try_gen (tb := fun W' => rdS G W' A m) hs hf C.nd C.tk (fun W' pn xe tk po => hb W' pn xe ⟨C.k, C.calm, tk, po, C.nd, C.un⟩) (hdS_G hh)).run pins s σ H E I ?_
  obtain ⟨ρ, re, q⟩ := q
  refine ⟨ρ, re, ?_⟩
  have q : postS G W (A ++ B) ρ σ H E (kTry sb kn l (m ρ)) := q
  have wk : ∀ {σ' : L2.St}, SameBut A σ σ' → SameBut (A ++ B) σ σ' := fun s i h => s i fun z => h (List.mem_append_left _ z)
  cases em : m ρ with
  | stuck => rw [em] at q; exact q
  | ok p =>
    rw [em] at q
    obtain ⟨o, ρ'⟩ := p
    cases o with
    | nx => exact fun σ' H' r f s => q σ' H' r f (wk s)
    | bk => exact fun σ' H' r f s => q σ' H' r f (wk s)
    | ct => exact fun σ' H' r f s => q σ' H' r f (wk s)
    | rt d => exact fun v σ' H' r f s z => q v σ' H' r f (wk s) z
  | exc c w ρ1 =>
    rw [em] at q
    have q : postS G W (A ++ B) ρ σ H E (if kn.contains c = true then hdl sb l c w ρ1 else .stuck) := q
    by_cases hk : kn.contains c = true
    · rw [if_pos hk] at q
      intro σ1 H1 dd fs v r f s h1 h2 h3
      refine hdl_ok (A := A) (List.contains_iff_mem.mp hk) r f (wk s) h1 h2 h3 (fun h mh => hx c (List.contains_iff_mem.mp hk) _ (List.mem_map.mpr ⟨h, mh, rfl⟩)) (fun h mh i e => ?_) q
      exact hdS_slots hh h mh i e
    · rw [if_neg hk] at q
      exact q.elim
/-- what holds around a suite -/
theorem CT.suite {X : Cx} {G : GG} {W : WX} {oi : Option Nat} {a dd : Addr} {fs : List (Str × V)} {w : D} {v : V} {oe : Obj} {pn : List (Addr × Obj)} (C : CT X G W) : CT (X.suite a ((a, oe) :: pn)) (GP G oi a dd fs w v) WF :=
  ⟨C.k, fun h => Bool.noConfusion h, takesF, PassesOwn.never, C.nd, C.un⟩
theorem _root_.PySem.RFX.RefK.xf {K : PySem.W.Frag} {D C fI : Addr} (T2 : RefK K D C fI) : XfC K C ∧ PySem.W.findIn K (.ref C) "what" = some none ∧ PySem.W.subIn K (.ref C) (.type "BaseException") = some true ∧ PySem.W.hasDictIn K C = true ∧ PySem.W.typeIn K (.ref C) = some (.type "type") := by
  obtain ⟨nm, q, N, bs, bm, sn, sub, ab, col, dd, k0, k1, k2, k3, k5, hC, hbm⟩ := T2.cls
  have hcl : PySem.W.clsIn K C = some { name := nm, bases := bs, mro := .ref C :: bm, ns := N, qualname := q, hasDict := true, slotNames := sn, subclasses := sub, abstract := ab, collection := col, hasDel := false } := by unfold PySem.W.clsIn; rw [hC] <;> rfl
  have r1 : PySem.W.subIn K (.ref C) (.type "BaseException") = some true := by
    show PySem.W.mroIn K C _ = some true
    unfold PySem.W.mroIn
    rw [hcl]
    rcases hbm with ⟨_, rfl⟩ | ⟨hne, rfl⟩ <;> simp
  have r2 : PySem.W.hasDictIn K C = true := by
    unfold PySem.W.hasDictIn
    rw [hcl]
    rfl
  have r3 : PySem.W.typeIn K (.ref C) = some (.type "type") := by
    show (List.lookup C K).map (·.cls) = _
    rw [hC]
    rfl
  exact ⟨⟨T2.ga, T2.gg, r1, r2⟩, T2.noN, r1, r2, r3⟩
theorem exm_sub {K : PySem.W.Frag} {D C fI : Addr} {cls : Value} {b : Bool} (T2 : RefK K D C fI) (h4 : PySem.W.subIn K cls (.ref C) = some b) : PySem.W.exmOne K cls (.ref C) = some b := by
  obtain ⟨_, _, h1, hdct, ht⟩ := T2.xf
  have e0 : (PySem.W.clsIn K C).isSome = true := by
    obtain ⟨nm, q, N, bs, bm, sn, sub, ab, col, dd, k0, k1, k2, k3, k5, hC, hbm⟩ := T2.cls
    unfold PySem.W.clsIn
    rw [hC] <;> rfl
  have e1 : (PySem.W.subIn K (.ref C) (.type "BaseException") == some true) = true := by rw [h1] <;> rfl
  have e2 : ((PySem.W.clsIn K C).isSome && PySem.W.typeIn K (.ref C) == some (.type "type")) = true := by rw [e0, ht] <;> rfl
  show (if (PySem.W.subIn K (.ref C) (.type "BaseException") == some true) = true then (if ((PySem.W.clsIn K C).isSome && PySem.W.typeIn K (.ref C) == some (.type "type")) = true then PySem.W.subIn K cls (.ref C) else none) else none) = some b
  rw [if_pos e1, if_pos e2]
  exact h4
/-- e.what, the exception one of kn -/
theorem se_whatX {X : Cx} {G : GG} {W : WX} {i c : Nat} {a dd : Addr} {fs : List (Str × V)} {w : D} {v : V} {oe : Obj} {pn : List (Addr × Obj)} {x cn : Str} {p pos : Pos} (hx : FnEx X.prog X.K X.mg G cn c) (hi : X.N[i]? = some x) (hv : PE (X.suite a ((a, oe) :: pn)) (.Name x p) (tVar i)) (hz : Zc (.ref (G.cl c)) (some dd) oe) (hf : ∃ vs, oe.data = .fields vs) (hl : fs.lookup ("what" : Str) = some v)
    (hb : attributeBase (.Name x p) "what" (X.suite a ((a, oe) :: pn)).env (eval (.Name x p) (X.suite a ((a, oe) :: pn)).env) = eval (.Name x p) (X.suite a ((a, oe) :: pn)).env := by rfl) :
    SE (X.suite a ((a, oe) :: pn)) (GP G (some i) a dd fs w v) W (.Attribute (.Name x p) "what" pos) (mC w) := by
  obtain ⟨Df, fI, _, T2, _, _⟩ := hx.ex
  obtain ⟨t1, t2, _⟩ := T2.xf
  exact se_what hi hv t1 t2 hz hf hl hb
end TV

/-! Te5: t[::-1] of tuples and lists; a, b, c = x, y, z. -/
namespace TBK
open PySem.SeqAt PySem.MeetsSeq PySem.MeetsSeq2 PySem.MeetsSeq3
open PySem PySem.Spec PyProof.Rows
section
variable {prog : Program} {w : World} {A : Around} {E : Value → Shared → Prop} {s : Shared}
theorem adj_back (n : Nat) : Builtin.Slice.sliceAdjust none none (-1) (n : Int) = ((n : Int) - 1, -1) := by
  unfold Builtin.Slice.sliceAdjust
  simp
theorem places_back (n : Nat) : Builtin.Slice.slicePlaces ((n : Int) - 1) (-1) (-1) = n := by
  unfold Builtin.Slice.slicePlaces
  have h1 : ¬ ((-1 : Int) > 0) := by omega
  simp only [h1, if_false]
  by_cases h : (n : Int) - 1 > -1
  · have e : ((n : Int) - 1 - -1 - 1) / (- -1) + 1 = (n : Int) := by
      rw [show (- -1 : Int) = 1 by decide, Int.ediv_one]
      omega
    first
      | (rw [if_pos (by omega)]; rw [show (- -1 : Int) = 1 by decide, Int.ediv_one]; omega)
      | (split <;> first | (rw [show (- -1 : Int) = 1 by decide, Int.ediv_one]; omega) | omega)
  · have e : n = 0 := by omega
    subst e
    simp
theorem applied_back {sl : Addr} {t : Tok} {n : Nat} {Q : Int × Int × Nat → Shared → Prop} (hs : s.heap.IsSliceOf sl .none .none (.int (-1) t)) (h : Q ((n : Int) - 1, -1, n) s) : wpAny (model prog w) A (Builtin.Slice.sliceApplied (.ref sl) (pure (n : Int))) Q E s := by
  obtain ⟨os, hos, hcs, hds⟩ := id hs
  unfold Builtin.Slice.sliceApplied Builtin.Slice.sliceFields
  refine wpAny_bind (wpAny_bind (wpAny_field hos hds (x := .none) rfl (wpAny_bind (wpAny_field hos hds (x := .none) rfl (wpAny_bind (wpAny_field hos hds (x := .int (-1) t) rfl (wpAny_pure ?_)))))))
  refine wpAny_bind (HT.slicePart_ (.int (-1) t) ?_)
  show wpAny _ _ (if ((-1 : Int) == 0) = true then _ else _) _ _ s
  rw [if_neg (by decide)]
  refine wpAny_bind (HT.slicePart_ .none (wpAny_bind (HT.slicePart_ .none (wpAny_bind (wpAny_pure ?_)))))
  show wpAny _ _ (match Builtin.Slice.sliceAdjust none none (-1) (n : Int) with | (lo, hi) => pure (lo, (-1 : Int), Builtin.Slice.slicePlaces lo hi (-1))) _ _ s
  rw [adj_back n]
  show wpAny _ _ (pure ((n : Int) - 1, (-1 : Int), Builtin.Slice.slicePlaces ((n : Int) - 1) (-1) (-1))) _ _ s
  rw [places_back]
  exact wpAny_pure h
theorem pick_back (xs : Array Value) : ((List.range xs.size).filterMap fun (m : Nat) => xs[((xs.size : Int) - 1 + (m : Int) * -1).toNat]?).toArray = xs.toList.reverse.toArray := by
  have e : ∀ m ∈ List.range xs.size, xs[((xs.size : Int) - 1 + (m : Int) * -1).toNat]? = xs[xs.size - 1 - m]? := fun m hm => by
    have := List.mem_range.mp hm
    have : ((xs.size : Int) - 1 + (m : Int) * -1).toNat = xs.size - 1 - m := by omega
    rw [this]
  have f : (List.range xs.size).filterMap (fun (m : Nat) => xs[((xs.size : Int) - 1 + (m : Int) * -1).toNat]?) = (List.range xs.size).filterMap (fun m => xs[xs.size - 1 - m]?) := by
    have gen : ∀ l : List Nat, (∀ m ∈ l, m ∈ List.range xs.size) → l.filterMap (fun (m : Nat) => xs[((xs.size : Int) - 1 + (m : Int) * -1).toNat]?) = l.filterMap (fun m => xs[xs.size - 1 - m]?) := by
      intro l
      induction l with
      | nil => intro _; rfl
      | cons a l ih =>
        intro h
        rw [List.filterMap_cons, List.filterMap_cons, e a (h a List.mem_cons_self), ih fun m hm => h m (List.mem_cons_of_mem _ hm)]
    exact gen _ fun m hm => hm
  rw [f]
  have g : (List.range xs.size).filterMap (fun m => xs[xs.size - 1 - m]?) = ((List.range xs.size).map fun m => xs.size - 1 - m).filterMap (xs[·]?) := by
    rw [List.filterMap_map]
    rfl
  rw [g, PySem.W.krv_range, List.filterMap_reverse, PySem.W.krv_all]
theorem getItem_back {t sl : Addr} {items : Array Value} {u : Tok} {Q : Value → Shared → Prop} (ht : IsTup s.heap t items) (hs : s.heap.IsSliceOf sl .none .none (.int (-1) u))
    (h : Q (.ref s.heap.objs.size) { s with heap := s.heap.push { cls := .type "tuple", data := .seq items.toList.reverse.toArray } })
    (hsz : items.size ≤ sizeLine) : wpAny (model prog w) A (getItem (.ref t) (.ref sl)) Q E s := by
  have htake : sizeOk (.seq items.toList.reverse.toArray) := by
    show items.toList.reverse.toArray.size ≤ sizeLine
    rw [List.size_toArray, List.length_reverse, Array.length_toList]
    exact hsz
  obtain ⟨os, hos, hcs, hds⟩ := id hs
  have hTs : s.TypeIs (.ref sl) "slice" := ⟨os, hos, hcs⟩
  unfold getItem
  try with_reducible refine wpAny_holding ?_
  first | refine wpAny_bind (wpAny_pure ?_) | skip
  refine wpAny_bind (wpAny_sequenceKey ht.typeIs (by decide) ?_)
  refine wpAny_bind (wpAny_callSpecial?_slot (name := Str.ofString "__getitem__") ht.typeIs PyProof.Rows.slot_tuple_getitem
    (wpAny_call_entry PyProof.Rows.slot_tuple_getitem ht.typeIs entry_tuple_getitem ?_ (args_tuple_getitem _ _)))
  show wpAny _ _ (Builtin.Tuple.tupleItemsOf (.ref t) >>= _) _ _ s
  refine wpAny_bind (tupleItemsOf_ ht ?_)
  refine wpAny_bind (wpAny_typeOf hTs ?_)
  rw [if_pos (by decide)]
  refine wpAny_bind (applied_back hs ?_)
  have hno : ¬ ((((items.size : Int) - 1) == 0 && (-1 : Int) == 1 && items.size == items.size) = true) := by
    rw [show ((-1 : Int) == 1) = false from by decide, Bool.and_false, Bool.false_and]
    exact Bool.false_ne_true
  show wpAny _ _ (if (((items.size : Int) - 1) == 0 && (-1 : Int) == 1 && items.size == items.size) = true then _ else _) _ _ s
  rw [if_neg hno, pick_back]
  first
    | exact wpAny_bind (m := Builtin.Tuple.tupleExact _) (wpAny_newObj_type (wpAny_pure ⟨_, rfl, wpAny_pure h⟩) htake)
    | exact wpAny_bind (m := Builtin.Tuple.tupleExact _) (wpAny_newObj_type (wpAny_bind (wpAny_pure (wpAny_pure ⟨_, rfl, wpAny_pure h⟩))) htake)
    | exact wpAny_bind (wpAny_bind (m := Builtin.Tuple.tupleExact _) (wpAny_newObj_type (wpAny_pure (wpAny_pure ⟨_, rfl, wpAny_pure h⟩)) htake))
    | exact wpAny_bind (wpAny_bind (m := Builtin.Tuple.tupleExact _) (wpAny_newObj_type (wpAny_pure ⟨_, rfl, wpAny_pure h⟩) htake))
end
end TBK
namespace L2
open PySem PySem.Spec PyProof.Rows
def rRevA (K : PySem.W.Frag) : V → Hp → VK → Prop := fun x H1 Q => ∃ a xs, x = .ref a ∧ ((SqL K H1 a xs ∧ ∀ p, H1 p = none → Q (.ref p) (upd H1 p (.lst xs.reverse))) ∨ (SqT K H1 a xs ∧ TV.NewT xs.reverse H1 Q))
theorem pe_revA {X : Cx} {e : Expr} {te : TE} {k : Nat} {p1 p2 p3 pos : Pos} (he : PE X e te) : PE X (.Subscript e (.Slice none none (some (.UnaryOp .USub (.Constant (.int 1) k p1) p2)) p3) pos) (fun σ H Q => te σ H fun x H1 => rRevA X.K x H1 Q) := by
  refine ⟨fun pins s σ H Q I h => ?_⟩
  refine Subscript_ (thn (he.run pins s σ H _ I h) fun v s1 ⟨x, H1, I1, r1, q1⟩ => ?_)
  obtain ⟨a, xs, ex, q⟩ := q1
  subst ex
  cases r1
  have hst : PO X (some (.UnaryOp .USub (.Constant (.int 1) k p1) p2)) (tPart (tUn (rU fun i => .int (-i)) (tC (.int 1)))) := po_some (pe_un un_neg pe_int)
  refine wpAny_Slice (thn (po_none.run pins s1 σ H1 (fun o H2 => o = none ∧ H2 = H1) I1 ⟨rfl, rfl⟩) fun vl s2 ⟨l, H2, I2, pl, el, e2⟩ => ?_)
  subst el e2
  refine thn (po_none.run pins s2 σ H2 (fun o H3 => o = none ∧ H3 = H2) I2 ⟨rfl, rfl⟩) fun vu s3 ⟨u, H3, I3, pu, eu, e3⟩ => ?_
  subst eu e3
  refine thn (hst.run pins s3 σ H3 (fun o H4 => o = some (-1) ∧ H4 = H3) I3 ⟨1, rfl, -1, rfl, rfl, rfl⟩) fun vs s4 ⟨o, H4, I4, ps, eo, e4⟩ => ?_
  subst eo e4
  have I5 : Inv X pins σ H4 { s4 with heap := s4.heap.push { cls := .type "slice", data := .fields #[vl, vu, vs] } } := I4.kept (t' := s4.toks) fun b ob q => Heap.get?_push_of_some _ q
  show wpAny (model X.prog X.w) X.A (subscriptTail e (.Slice none none (some (.UnaryOp .USub (.Constant (.int 1) k p1) p2)) p3) (.ref a) (.ref s4.heap.objs.size)) (EP X pins σ Q) X.xe { s4 with heap := s4.heap.push { cls := .type "slice", data := .fields #[vl, vu, vs] } }
  rcases q with ⟨hx, q⟩ | ⟨hx, q⟩
  · obtain ⟨its, r, ht, hz⟩ := I5.list hx
    have hlen := r.length
    refine tail_any (ops := [.ref a, .ref s4.heap.objs.size]) ht.isList.typeIs (PySem.slot_list_getitem.lookup) ?_ (by with_unfolding_all rfl)
    refine wpAny_getItem_list_slice ht.isList (Heap.IsSliceOf.new _ vl vu vs) pl pu ps (by decide) ?_ (by rw [List.size_toArray]; omega)
    rw [PySem.W.krv_pick]
    refine ⟨.ref _, _, I5.laid (t' := s4.toks) (o := .lst xs.reverse) (fun b ob q => Heap.get?_push_of_some _ q) (Nat.le_refl _) ?_, rfl, q _ (I5.hok.fresh (Nat.le_refl _))⟩
    exact ⟨by rw [List.length_reverse]; exact hz, _, 0, r.reverse, Heap.get?_push_size _ rfl⟩
  · obtain ⟨its, r, ht, hz⟩ := I5.tuple hx
    have hlen : its.toArray.size = xs.length := by rw [List.size_toArray]; exact r.length.symm
    refine tail_any (ops := [.ref a, .ref s4.heap.objs.size]) ht.typeIs (PyProof.Rows.slot_tuple_getitem.lookup) ?_ (by with_unfolding_all rfl)
    cases pl
    cases pu
    cases ps
    refine TBK.getItem_back ht (Heap.IsSliceOf.new _ _ _ _) ?_ (by rw [hlen]; exact hz)
    exact TV.laidT I5 r.reverse (by rw [List.length_reverse]; exact hz) q
end L2
namespace TV
open PySem PySem.Spec PyProof.Rows L2
def dRev : List D → Option D
  | [.tup ds] => some (.tup ds.reverse)
  | [.lst ds] => some (.lst ds.reverse)
  | [.frl ds] => some (.lst ds.reverse)
  | _ => none
theorem rev_ok {G : GG} : V1 G (fun x H Q => rRevA G.K x H Q) dRev := by
  intro H x d z Q h ef g
  cases d with
  | tup ds =>
    cases ef
    obtain ⟨a, vs, rfl, s, r⟩ := h.tupOf
    exact ⟨a, vs, rfl, .inr ⟨s.sqt, g.tup r.reverse⟩⟩
  | lst ds =>
    cases ef
    obtain ⟨a, vs, rfl, s, r⟩ := h.lstOf
    exact ⟨a, vs, rfl, .inl ⟨SqL.of s, g.lst r.reverse⟩⟩
  | frl ds =>
    cases ef
    obtain ⟨a, vs, rfl, s, r⟩ := h.frlOf
    exact ⟨a, vs, rfl, .inl ⟨s, g.lst r.reverse⟩⟩
  | _ => cases ef
theorem se_rev {X : Cx} {G : GG} {W : WX} {e : Expr} {oe : Opd} {k : Nat} {p1 p2 p3 pos : Pos} (c : CT X G W) (he : SO X G W e oe) : SE X G W (.Subscript e (.Slice none none (some (.UnaryOp .USub (.Constant (.int 1) k p1) p2)) p3) pos) (mOp [oe] dRev) :=
  pe_wk (pe_revA he) fun σ H Q q => by
    rw [← c.k]
    exact mOp1_rd (r := fun x H Q => rRevA G.K x H Q) (fun H x d z Q r ef g => rev_ok H x d z Q r ef g) q
end TV

/-! Te6: a, b, c = x, y, z. -/
namespace TV
open PySem PySem.Spec PyProof.Rows L2
def kPar3 (i j l : Nat) : List (Option D) × Env → R (Out × Env) := fun p => match p.1 with
  | [some d1, some d2, some d3] => .ok (.nx, ((p.2.set i (some d1)).set j (some d2)).set l (some d3))
  | _ => .stuck
def mPar3 (i j l : Nat) (m n o : ME) : MS := fun ρ => (ev [.tmp m pAny, .tmp n pAny, .tmp o pAny] ρ).bind (kPar3 i j l)
theorem Res.more {G : GG} {ρ ρ1 : Env} {σ σ1 : L2.St} {H H1 : Hp} {d d1 : D} {v v1 : V} {i : Nat} (hl : ρ1.length = σ1.length) (q : Res G ρ σ H ρ1 σ1 H1 d v) (n : ∀ a, v = .ref a → d.own = true → v1 = .ref a → d1.own = true → False) : Res G ρ σ H (ρ1.set i (some d1)) (σ1.set i (some v1)) H1 d v :=
  ⟨q.1, fun a e o => ⟨fun z => by
    rcases own_set hl z with ⟨ev, ow⟩ | z
    · exact n a e o ev ow
    · exact (q.2 a e o).1 z, (q.2 a e o).2⟩⟩
theorem ss_par3 {X : Cx} {G : GG} [NoSlot G] {W : WX} {i j l : Nat} {x y z : Str} {a b c : Expr} {m n o : ME} {px py pz pt pos : Pos} {kt k2 pt2} (ct : CT X G W) (hi : X.N[i]? = some x) (hj : X.N[j]? = some y) (hl : X.N[l]? = some z) (hij : i ≠ j) (hil : i ≠ l) (hjl : j ≠ l)
    (hx : X.env.scope.names.lookup x = some .local) (hy : X.env.scope.names.lookup y = some .local) (hz : X.env.scope.names.lookup z = some .local) (ha : SOs X G W [a, b, c] [.tmp m pAny, .tmp n pAny, .tmp o pAny])
    (hw : swappedStores [.Tuple [.Name x px, .Name y py, .Name z pz] kt pt] (.Tuple [a, b, c] k2 pt2) X.env = pure (some [x, y, z]))
    (hs : swapsWithSole [.Tuple [.Name x px, .Name y py, .Name z pz] kt pt] (.Tuple [a, b, c] k2 pt2) pos.line X.env = pure false := by rfl) :
    SS X G W (.Assign [.Tuple [.Name x px, .Name y py, .Name z pz] kt pt] (.Tuple [a, b, c] k2 pt2) pos) [i, j, l] (mPar3 i j l m n o) := by
  refine ps_wk (ps_par3 (ct.calm (NoSlot.c (G := G))) ct.nd hi hj hl hij hil hjl hx hy hz ha hw hs) fun E σ H q => ?_
  obtain ⟨ρ, re, q⟩ := q
  refine args_run re ?_
  have q : postS G W [i, j, l] ρ σ H E ((ev [.tmp m pAny, .tmp n pAny, .tmp o pAny] ρ).bind (kPar3 i j l)) := q
  cases ee : ev [.tmp m pAny, .tmp n pAny, .tmp o pAny] ρ with
  | exc c' w ρ' => rw [ee] at q; exact fun σ' H' dd fs v a1 a2 a3 => q σ' H' dd fs v a1 a2 (fun k _ => a3 k fun h => nomatch h)
  | stuck => rw [ee] at q; exact q.elim
  | ok p =>
    rw [ee] at q
    obtain ⟨xs, ρ'⟩ := p
    intro vs H' r' f' ar
    cases ar with
    | tmp q1 n1 ar =>
      rename_i d1 v1 _ _
      cases ar with
      | tmp q2 n2 ar =>
        rename_i d2 v2 _ _
        cases ar with
        | tmp q3 n3 ar =>
          rename_i d3 v3 _ _
          cases ar
          have q : postS G W [i, j, l] ρ σ H E (.ok (.nx, ((ρ'.set i (some d1)).set j (some d2)).set l (some d3))) := q
          have t2 : ∀ a, v2 = .ref a → d2.own = true → a ∈ tA [.tmp n pAny, .tmp o pAny] [some d2, some d3] [v2, v3] := fun a e w => by
            subst e
            unfold tA
            rw [if_pos w]
            exact List.mem_cons_self
          have t3' : ∀ a, v3 = .ref a → d3.own = true → a ∈ tA [.tmp o pAny] [some d3] [v3] := fun a e w => by
            subst e
            unfold tA
            rw [if_pos w]
            exact List.mem_cons_self
          have t3 : ∀ a, v3 = .ref a → d3.own = true → a ∈ tA [.tmp n pAny, .tmp o pAny] [some d2, some d3] [v2, v3] := fun a e w => by
            have k := t3' a e w
            cases v2 with
            | ref b =>
              unfold tA
              split
              · exact List.mem_cons_of_mem _ k
              · exact k
            | _ => exact k
          have q2' := q2.more (i := i) (d1 := d1) (v1 := v1) r'.len fun a e w e1 w1 => n1 a e1 w1 (t2 a e w)
          have q3' := q3.more (i := i) (d1 := d1) (v1 := v1) r'.len fun a e w e1 w1 => n1 a e1 w1 (t3 a e w)
          have r1 := r'.setN q1 i
          have q3'' := q3'.more (i := j) (d1 := d2) (v1 := v2) r1.len fun a e w e1 w1 => n2 a e1 w1 (t3' a e w)
          have r2 := r1.setN q2' j
          have r3 := r2.setN q3'' l
          refine ⟨v1, v2, v3, rfl, q _ H' r3 ?_ fun k hk => ?_⟩
          · have f1 := Fr.set (i := i) r' f' q1
            have f2 := Fr.set1 (i := j) (d := d2) (v := v2) r1.len f1 fun a ea oa => (q2.2 a ea oa).2
            exact Fr.set1 (i := l) (d := d3) (v := v3) r2.len f2 fun a ea oa => (q3.2 a ea oa).2
          · rw [List.getElem?_set_ne (fun z => hk (by simp [z])), List.getElem?_set_ne (fun z => hk (by simp [z])), List.getElem?_set_ne (fun z => hk (by simp [z]))]
end TV
namespace TV
open PySem PySem.Spec PyProof.Rows L2
theorem sss_wide {X : Cx} {G : GG} {W : WX} {st : List Stmt} {A B : List Nat} {m : MS} (hs : ∀ i ∈ A, i ∈ B) (h : SSs X G W st A m) : SSs X G W st B m :=
  pss_wk h fun E σ H ⟨ρ, re, q⟩ => ⟨ρ, re, by
    have wk : ∀ {σ' : L2.St}, SameBut A σ σ' → SameBut B σ σ' := fun s i hi => s i fun z => hi (hs i z)
    cases em : m ρ with
    | stuck => rw [em] at q; exact q
    | exc c w ρ' => rw [em] at q; exact fun σ' H' dd fs v a1 a2 a3 => q σ' H' dd fs v a1 a2 (wk a3)
    | ok p =>
      rw [em] at q
      obtain ⟨o, ρ'⟩ := p
      cases o with
      | nx => exact fun σ' H' r f s => q σ' H' r f (wk s)
      | bk => exact fun σ' H' r f s => q σ' H' r f (wk s)
      | ct => exact fun σ' H' r f s => q σ' H' r f (wk s)
      | rt d => exact fun v σ' H' r f s z => q v σ' H' r f (wk s) z⟩
end TV

/-! Te7: repr of a bool, an int, None; dict(pairs); isinstance. -/
namespace TV
open PySem PySem.Spec PyProof.Rows L2 PySem.RFX
/-! ### repr -/
def dRep : List D → Option D
  | [.bl b] => some (.str (if b then "True" else "False"))
  | [.non] => some (.str "None")
  | [.int i] => if i.natAbs.log2 < 1920 then some (.str (toString i)) else none
  | _ => none
def rRep : List V → Hp → VK → Prop := fun xs H Q => (∃ b, xs = [.bl b] ∧ Q (.str (if b then "True" else "False")) H) ∨ (xs = [.non] ∧ Q (.str "None") H) ∨ ∃ i, xs = [.int i] ∧ i.natAbs.log2 < 1920 ∧ Q (.str (toString i)) H
theorem call_rep {X : Cx} : CallR X (.builtin "repr") rRep := by
  intro pins s σ H xs us Q I r h
  rcases h with ⟨b, rfl, q⟩ | ⟨rfl, q⟩ | ⟨i, rfl, hz, q⟩
  · obtain ⟨u, rfl, rfl⟩ := vals1 r
    exact PySem.P.repr_of_bool ⟨.str _, H, I.tok _, ⟨_, rfl⟩, q⟩
  · obtain ⟨u, rfl, rfl⟩ := vals1 r
    exact PySem.P.repr_of_none ⟨.str _, H, I.tok _, ⟨_, rfl⟩, q⟩
  · obtain ⟨u, rfl, t, rfl⟩ := vals1 r
    exact PySem.P.repr_of_int hz ⟨.str _, H, I.tok _, ⟨_, rfl⟩, q⟩
theorem vn_rep {G : GG} : VN G 1 rRep dRep := VN.one fun H x d z Q h ef g => by
  unfold dRep at ef
  split at ef
  · rename_i b q
    cases q; cases ef
    rw [h.blOf]
    exact .inl ⟨b, rfl, g.val (.str _)⟩
  · rename_i q
    cases q; cases ef
    rw [h.nonOf]
    exact .inr (.inl ⟨rfl, g.val (.str _)⟩)
  · rename_i i q
    cases q
    split at ef
    · rename_i hz
      cases ef
      rw [h.intOf]
      exact .inr (.inr ⟨i, rfl, hz, g.val (.str _)⟩)
    · cases ef
  · cases ef
/-! ### dict(a list of pairs) -/
def dKvs : List D → Option (List (Key × D))
  | [] => some []
  | .tup [k, v] :: l => (dKey k).bind fun kk => (dKvs l).map ((kk, v) :: ·)
  | _ => none
def stepD (a : D) (p : Key × D) : D := match a with
  | .dic ks ds => dPutK ks ds p.1 p.2
  | z => z
def dDicOf : List D → Option D
  | [.lst ds] => (dKvs ds).map fun ps => ps.foldl stepD (.dic [] [])
  | _ => none
theorem pairs_ok {G : GG} [NoSlot G] {H : Hp} : ∀ {ds : List D} {ps : List (Key × D)} {vs : List V}, dKvs ds = some ps → RVs G H ds vs → ∃ (as : List Addr) (kvs : List (Key × V)), vs = as.map V.ref ∧ Paired (fun p kv => SqT G.K H p [L2.kV kv.1, kv.2]) as kvs ∧ Paired (fun (p : Key × D) (q : Key × V) => p.1 = q.1 ∧ RV G H p.2 q.2) ps kvs
  | [], _, _, e, .nil => by cases e; exact ⟨[], [], rfl, .nil, .nil⟩
  | d :: ds, ps, _, e, .cons (v := v) (vs := vs) h r => by
    unfold dKvs at e
    split at e
    · rename_i q; cases q
    · rename_i k x l q
      cases q
      rw [Option.bind_eq_some_iff] at e
      obtain ⟨kk, hk, e⟩ := e
      rw [Option.map_eq_some_iff] at e
      obtain ⟨ps, e, rfl⟩ := e
      obtain ⟨as, kvs, rfl, h1, h2⟩ := pairs_ok e r
      cases h with
      | @tup _ a us ht hr =>
        cases hr with
        | cons q1 hr =>
          cases hr with
          | cons q2 hr =>
            cases hr
            cases (q1.rs.key hk)
            exact ⟨a :: as, (kk, _) :: kvs, rfl, .cons ht.sqt h1, .cons ⟨rfl, q2⟩ h2⟩
    · cases e
theorem merge_ok {G : GG} [NoSlot G] {H : Hp} : ∀ {ps : List (Key × D)} {kvs : List (Key × V)}, Paired (fun (p : Key × D) (q : Key × V) => p.1 = q.1 ∧ RV G H p.2 q.2) ps kvs → ∀ {ks : List Key} {ds : List D} {us : List V}, ks.length = ds.length → RVs G H ds us → ∃ ks' ds' us', ps.foldl stepD (.dic ks ds) = .dic ks' ds' ∧ mergeK (ks.zip us) kvs = ks'.zip us' ∧ ks'.length = ds'.length ∧ RVs G H ds' us'
  | _, _, .nil, ks, ds, us, l, r => ⟨ks, ds, us, rfl, rfl, l, r⟩
  | _, _, .cons (a := (k, d)) (b := (_, v)) ⟨e, h⟩ t, ks, ds, us, ln, rv => by
    cases e
    have hl : ks.length = us.length := ln.trans rv.length
    have k1 : ∃ ks1 ds1 us1, dPutK ks ds k d = .dic ks1 ds1 ∧ L2.putK (ks.zip us) k v = ks1.zip us1 ∧ ks1.length = ds1.length ∧ RVs G H ds1 us1 := by
      unfold dPutK L2.putK
      rw [any_zip ks us hl]
      by_cases c : (ks.any fun x => decide (x = k)) = true
      · rw [if_pos c, if_pos c, putK_zip ks us hl]
        exact ⟨_, _, _, rfl, rfl, by rw [List.length_map, List.length_zip, ← ln, Nat.min_self], rvs_put h rv⟩
      · rw [if_neg c, if_neg c]
        refine ⟨_, _, us ++ [v], rfl, ?_, by rw [List.length_append, List.length_append, ln]; rfl, rv.app (.cons h .nil)⟩
        rw [List.zip_append hl]
        rfl
    obtain ⟨ks1, ds1, us1, e1, e2, l1, r1⟩ := k1
    obtain ⟨ks2, ds2, us2, e3, e4, l2, r2⟩ := merge_ok t l1 r1
    refine ⟨ks2, ds2, us2, ?_, ?_, l2, r2⟩
    · rw [List.foldl_cons]
      show List.foldl stepD (dPutK ks ds k d) _ = _
      rw [e1]
      exact e3
    · unfold mergeK at e4 ⊢
      rw [List.foldl_cons]
      show List.foldl _ (L2.putK (ks.zip us) k v) _ = _
      rw [e2]
      exact e4
theorem vn_dicOf {G : GG} [NoSlot G] : VN G 1 (fun xs H Q => ∃ (a : Addr) (ps : List Addr) (kvs : List (Key × V)), xs = [.ref a] ∧ SqL G.K H a (ps.map V.ref) ∧ Paired (fun p kv => SqT G.K H p [L2.kV kv.1, kv.2]) ps kvs ∧ ∀ p, H p = none → Q (.ref p) (upd H p (.dK (mergeK [] kvs)))) dDicOf := VN.one fun H x d z Q h ef g => by
  unfold dDicOf at ef
  split at ef
  · rename_i ds q
    cases q
    rw [Option.map_eq_some_iff] at ef
    obtain ⟨ps, e1, rfl⟩ := ef
    obtain ⟨a, vs, rfl, ha, rv⟩ := h
    obtain ⟨as, kvs, rfl, h1, h2⟩ := pairs_ok e1 rv
    obtain ⟨ks, ds', us, e2, e3, l, r⟩ := merge_ok h2 (ks := []) (ds := []) (us := []) rfl .nil
    refine ⟨a, as, kvs, rfl, .inl (.inl ha), h1, fun p hp => ?_⟩
    have sm : Same H (upd H p (.dK (mergeK [] kvs))) := fun b o hb => by
      rw [upd_ne (fun z => by subst z; rw [hp] at hb; cases hb)]
      exact hb
    have e3 : mergeK [] kvs = ks.zip us := e3
    refine g (.ref p) _ sm ?_ fun a ea _ => by cases ea; exact hp
    rw [e2]
    exact ⟨p, us, rfl, by rw [← e3]; exact upd_same, l, r.mono fun b o hb _ => sm b o hb⟩
  · cases ef
/-! ### isinstance -/
def tyD : D → Option String
  | .non => some "NoneType"
  | .bl _ => some "bool"
  | .int _ => some "int"
  | .str _ => some "str"
  | .tup _ => some "tuple"
  | .lst _ => some "list"
  | .frl _ => some "list"
  | .dic _ _ => some "dict"
  | .ins _ _ => none
abbrev tyNames : List String := ["NoneType", "bool", "int", "str", "tuple", "list", "dict"]
def isiB (t T : String) : Option Bool := if t = T then some true else if t = "bool" ∧ T = "int" then some true else if tyNames.contains T = true then some false else none
theorem isi_all : ∀ t ∈ tyNames, ∀ T ∈ tyNames, kitB t T = isiB t T := by decide +kernel
theorem isi_eq {t T : String} {b : Bool} (h1 : t ∈ tyNames) (h : isiB t T = some b) : kitB t T = some b := by
  by_cases c : T ∈ tyNames
  · rw [isi_all t h1 T c, h]
  · exfalso
    unfold isiB at h
    split at h
    · rename_i e; subst e; exact c h1
    · split at h
      · rename_i e; exact c (by rw [e.2]; decide)
      · split at h
        · rename_i e; exact c (List.contains_iff_mem.mp e)
        · cases h
theorem tyD_mem {d : D} {t : String} (h : tyD d = some t) : t ∈ tyNames := by
  cases d <;> cases h <;> decide
def dIsi (T : String) : List D → Option D
  | [d] => (tyD d).bind fun t => (isiB t T).map .bl
  | _ => none
theorem ty_of {G : GG} [NoSlot G] {H : Hp} {d : D} {v : V} {t : String} (h : RS G H d v) (e : tyD d = some t) : TyX G.K H v (.type t) := by
  cases d with
  | non => cases e; rw [h.nonOf]; exact .base .non
  | bl b => cases e; rw [h.blOf]; exact .base (.bl _)
  | int b => cases e; rw [h.intOf]; exact .base (.int _)
  | str b => cases e; rw [h.strOf]; exact .base (.str _)
  | tup ds =>
    cases e
    obtain ⟨a, vs, rfl, ht, _⟩ := h.tupOf
    rcases ht with ⟨o, h1, _⟩ | ⟨o, its, n, h1, h2, _⟩
    · exact .fTuple h1
    · exact .kTuple h1 h2
  | lst ds =>
    cases e
    obtain ⟨a, vs, rfl, ha, _⟩ := h
    exact .base (.lst ha)
  | frl ds =>
    cases e
    cases (h : RV G H (.frl ds) v) with
    | frl ht _ =>
      rcases ht with ⟨o, h1⟩ | ⟨o, its, n, h1, h2, _⟩
      · exact .base (.frz h1)
      · exact .kList h1 h2
  | dic ks ds =>
    cases e
    obtain ⟨a, us, rfl, ha, _⟩ := h
    exact .base (.dK ha)
  | ins c fs => cases e
theorem vn_isi {G : GG} [NoSlot G] {T : String} : VN G 1 (fun xs H Q => rIsi G.K (xs ++ [.ty T]) H Q) (dIsi T) := VN.one fun H x d z Q h ef g => by
  have ef : (tyD d).bind (fun t => (isiB t T).map .bl) = some z := ef
  rw [Option.bind_eq_some_iff] at ef
  obtain ⟨t, e1, ef⟩ := ef
  rw [Option.map_eq_some_iff] at ef
  obtain ⟨b, e2, rfl⟩ := ef
  exact ⟨x, .ty T, _, _, b, rfl, .ty T, ty_of h e1, kit_ty (isi_eq (tyD_mem e1) e2), g.val (.bl b)⟩
section
variable {X : Cx} {G : GG} [NoSlot G] {W : WX} {pos p q : Pos} {a : Expr} {oa : Opd}
theorem se_repr (hm : X.mg "repr" = none) (ha : SO X G W a oa) (hg : Gl X "repr" := by rfl) (he : starEach [a] X.env = (false, eval a X.env) :: starEach [] X.env := by rfl) : SE X G W (.Call (.Name "repr" p) [a] [] pos) (mOp [oa] dRep) :=
  se_callB call_rep vn_rep hg hm boot_repr (so_cons ha so_nil he) (by decide) (by decide) he
theorem se_dicOf (c : CT X G W) (hm : X.mg "dict" = none) (ha : SO X G W a oa) (hg : Gl X "dict" := by rfl) (he : starEach [a] X.env = (false, eval a X.env) :: starEach [] X.env := by rfl) : SE X G W (.Call (.Name "dict" p) [a] [] pos) (mOp [oa] dDicOf) :=
  se_callT (r := fun xs H Q => ∃ (a : Addr) (ps : List Addr) (kvs : List (Key × V)), xs = [.ref a] ∧ SqL G.K H a (ps.map V.ref) ∧ Paired (fun p kv => SqT G.K H p [L2.kV kv.1, kv.2]) ps kvs ∧ ∀ p, H p = none → Q (.ref p) (upd H p (.dK (mergeK [] kvs)))) (by rw [c.k]; exact call_dictP (c.calm (NoSlot.c (G := G)))) vn_dicOf hg hm boot_dict (so_cons ha so_nil he) (by decide) (by decide) he
theorem se_isi {T : String} (c : CT X G W) (hm : X.mg "isinstance" = none) (hT : X.mg (T : Str) = none) (hb : bootBuiltins (T : Str) = some (.type T)) (ha : SO X G W a oa) (hg : Gl X "isinstance" := by rfl) (hgT : Gl X (T : Str) := by rfl) (hn : (T : Str) ≠ "__name__" := by decide) (hd : ((T : Str) == ("__debug__" : Str)) = false := by decide)
    (he : starEach [a, .Name (T : Str) q] X.env = (false, eval a X.env) :: starEach [.Name (T : Str) q] X.env := by rfl) (hf : starEach [.Name (T : Str) q] X.env = (false, eval (.Name (T : Str) q) X.env) :: starEach [] X.env := by rfl) (hpl : (backTo pos (starEach [.Name (T : Str) q] X.env)).any (·.1) = false := by rfl) :
    SE X G W (.Call (.Name "isinstance" p) [a, .Name (T : Str) q] [] pos) (mOp [oa] (dIsi T)) :=
  pe_wk (pe_callB (r := rIsi G.K) (by rw [c.k]; exact call_isi) hg hm boot_isinstance (pa_cons ha (pa_cons (pe_bltn (v := .ty T) hgT hT hb rfl hn hd) pa_nil hf) he) (by decide) (by decide) he hpl) fun σ H Q q => (mOp_rd (os := [oa]) (r := fun xs H Q => rIsi G.K (xs ++ [V.ty T]) H Q) (vn_isi (T := T)) q : tOs G W [oa] σ H fun vs H1 => rIsi G.K (vs ++ [V.ty T]) H1 Q)
end
/-- what a caught error's class must say, that isinstance answers -/
structure ExI (K : PySem.W.Frag) (C : Addr) : Prop where
  a : PySem.W.findIn K (.ref C) "__class__" = some (some (.builtin "object.__class__"))
  n : PySem.W.specialIn K (.builtin "object.__class__") "__get__" = some (some (.builtin "getset_descriptor.__get__"))
  t : PySem.W.takesIn K (.builtin "object.__class__") = some true
  m : PySem.W.mroIn K C (.type "object") = some true
def rIsX (K : PySem.W.Frag) (C a dd : Addr) : List V → Hp → VK → Prop := fun xs H Q => ∃ (c : V) (cv : Value) (b : Bool), xs = [.ref a, c] ∧ (∃ fs, H dd = some (.xd fs)) ∧ (∀ u, RelV c u → u = cv) ∧ PySem.W.kitOne K (.ref C) cv = some b ∧ Q (.bl b) H
theorem call_isX {X : Cx} {a dd D C fI : Addr} {oe : Obj} {pn : List (Addr × Obj)} (T2 : RefK X.K D C fI) (T3 : ExI X.K C) (hz : Zc (.ref C) (some dd) oe) (hf : ∃ vs, oe.data = .fields vs) : CallR (X.suite a ((a, oe) :: pn)) (.builtin "isinstance") (rIsX X.K C a dd) := by
  intro pins s σ H xs us Q I r h
  obtain ⟨c, cv, b, rfl, ⟨fs, hx⟩, hcv, e, q⟩ := h
  obtain ⟨u1, u2, rfl, rx, rt⟩ := vals2 r
  cases (show u1 = Value.ref a from rx)
  have ec := hcv _ rt
  subst ec
  obtain ⟨hget, _⟩ := I.pin (a, oe) (List.mem_append_left _ List.mem_cons_self)
  obtain ⟨vs, hv⟩ := hf
  obtain ⟨od, ho⟩ : ∃ od, s.heap.get? dd = some od := by
    have hx : ObjOk X.prog X.w H s.heap dd (.xd fs) := I.hok dd _ hx
    obtain ⟨mA, hns, _⟩ := hx
    obtain ⟨od, ho, _⟩ := lookIn_ns hns
    exact ⟨od, ho⟩
  have J : PySem.W.InstAt s.heap a oe C (some od) := ⟨hget, hz.1, by unfold PySem.W.notCls; rw [hv] <;> rfl, by rw [hz.2]; exact ho⟩
  obtain ⟨nm, q2, N, bs, bm, sn, sub, ab, col, d2, k0, k1, k2, k3, k5, hC, hbm⟩ := T2.cls
  have hcl : (PySem.W.clsIn X.K C).isSome = true := by unfold PySem.W.clsIn; rw [hC] <;> rfl
  obtain ⟨_, _, hsub, _, _⟩ := T2.xf
  exact PySem.W.kia_one (PySem.W.kitx_exc hcl T2.ga T2.gg hsub T3.a T3.n T3.t T3.m) I.kIn J e (fun z => nomatch z) fun tk => ⟨.bl b, H, I.kept (t' := tk) fun _ _ z => z, rfl, q⟩
section
variable {X : Cx} {G : GG} {W : WX} {i c : Nat} {a dd : Addr} {fs : List (Str × V)} {w : D} {v : V} {oe : Obj} {pn : List (Addr × Obj)} {x cn : Str} {p p1 p2 pos : Pos} {y : Str} {cv : V} {u : Value} {b : Bool}
/-- isinstance(e, C), e the error that was caught -/
theorem se_isX (hx : FnEx X.prog X.K X.mg G cn c) (T3 : ExI X.K (G.cl c)) (hi : X.N[i]? = some x) (hm : X.mg "isinstance" = none) (hv : PE (X.suite a ((a, oe) :: pn)) (.Name x p1) (tVar i)) (hy : PE (X.suite a ((a, oe) :: pn)) (.Name y p2) (tC cv)) (hu : ∀ z, RelV cv z → z = u)
    (hk : PySem.W.kitOne X.K (.ref (G.cl c)) u = some b) (hz : Zc (.ref (G.cl c)) (some dd) oe) (hf : ∃ vs, oe.data = .fields vs) (hg : Gl X "isinstance" := by rfl)
    (he : starEach [.Name x p1, .Name y p2] (X.suite a ((a, oe) :: pn)).env = (false, eval (.Name x p1) (X.suite a ((a, oe) :: pn)).env) :: starEach [.Name y p2] (X.suite a ((a, oe) :: pn)).env := by rfl) (hs : starEach [.Name y p2] (X.suite a ((a, oe) :: pn)).env = (false, eval (.Name y p2) (X.suite a ((a, oe) :: pn)).env) :: starEach [] (X.suite a ((a, oe) :: pn)).env := by rfl)
    (hpl : (backTo pos (starEach [.Name y p2] (X.suite a ((a, oe) :: pn)).env)).any (·.1) = false := by rfl) :
    SE (X.suite a ((a, oe) :: pn)) (GP G (some i) a dd fs w v) W (.Call (.Name "isinstance" p) [.Name x p1, .Name y p2] [] pos) (mC (.bl b)) := by
  obtain ⟨Df, fI, _, T2, _, _⟩ := hx.ex
  refine pe_wk (pe_callB (call_isX T2 T3 hz hf) hg hm boot_isinstance (pa_cons hv (pa_cons hy pa_nil hs) he) (by decide) (by decide) he hpl) fun σ H Q q => ?_
  obtain ⟨ρ, re, q⟩ := q
  exact ⟨.ref a, re.spin i rfl, cv, u, b, rfl, ⟨fs, re.pin.2.1⟩, hu, hk, q _ H re Fr.refl (Res.of_rv (.bl b))⟩
end
theorem rel_ref {C : Addr} : ∀ z, RelV (.ref C) z → z = Value.ref C := fun _ h => h
theorem rel_ty {T : String} : ∀ z, RelV (.ty T) z → z = Value.type T := fun _ h => h
end TV
namespace TV
open PySem PySem.Spec PyProof.Rows L2 PySem.RFX
theorem kit_sub {K : PySem.W.Frag} {D C fI A : Addr} {b : Bool} (T2 : RefK K D C fI) (h4 : PySem.W.subIn K (.ref A) (.ref C) = some b) (hn : b = false → A ≠ C) : PySem.W.kitOne K (.ref A) (.ref C) = some b := by
  obtain ⟨_, _, _, _, ht⟩ := T2.xf
  have e0 : (PySem.W.clsIn K C).isSome = true := by
    obtain ⟨nm, q, N, bs, bm, sn, sub, ab, col, dd, k0, k1, k2, k3, k5, hC, hbm⟩ := T2.cls
    unfold PySem.W.clsIn
    rw [hC] <;> rfl
  have e2 : ((PySem.W.clsIn K C).isSome && PySem.W.typeIn K (.ref C) == some (.type "type")) = true := by rw [e0, ht] <;> rfl
  show (if (Value.ref A == Value.ref C) = true then some true else (if ((PySem.W.clsIn K C).isSome && PySem.W.typeIn K (.ref C) == some (.type "type")) = true then PySem.W.subIn K (.ref A) (.ref C) else none)) = some b
  rw [if_pos e2, h4]
  cases b with
  | true => split <;> rfl
  | false =>
    rw [if_neg]
    intro z
    have z : Value.ref A = Value.ref C := beq_iff_eq.mp z
    cases z
    exact hn rfl rfl
theorem kit_ve {K : PySem.W.Frag} {A : Addr} (h4 : PySem.W.subIn K (.ref A) (.type "ValueError") = some true) : PySem.W.kitOne K (.ref A) (.type "ValueError") = some true := by
  have e2 : PySem.W.kitMeta "ValueError" = true := by decide +kernel
  show (if (Value.ref A == Value.type "ValueError") = true then some true else (if PySem.W.kitMeta "ValueError" = true then PySem.W.subIn K (.ref A) (.type "ValueError") else none)) = some true
  rw [if_pos e2, h4]
  split <;> rfl
end TV

/-! Te8: a list that changes no more is frozen: from then on it is a value like any other. -/
namespace TV
open PySem PySem.Spec PyProof.Rows L2
theorem inv_frz {X : Cx} {pins : List (Addr × Obj)} {σ : L2.St} {H : Hp} {s : Shared} {a : Addr} {vs : List V} (I : Inv X pins σ H s) (ha : H a = some (.lst vs)) : ∃ o, Inv X pins σ (upd H a (.frz o (.lst vs))) s := by
  obtain ⟨hz, its, n, rv, e⟩ := (show ObjOk X.prog X.w H s.heap a (.lst vs) from I.hok a _ ha)
  let o : Obj := { cls := .type "list", data := .seq its.toArray n }
  have ne : ∀ {b : Addr} {u : HO}, H b = some u → u ≠ .lst vs → b ≠ a := fun {b u} hb hu z => by
    subst z
    rw [ha] at hb
    exact hu (Option.some.inj hb).symm
  refine ⟨o, I.un (t' := s.toks) (h' := s.heap) ⟨fun b _ q _ _ _ => q, fun b ob q _ _ _ => ⟨ob.slots, q⟩, fun b _ _ n _ => ?_, fun b ob q _ => ⟨ob, q⟩, fun b xs q => ?_, fun b ob u q => ?_, fun b ps q => ⟨#[], ?_⟩⟩ fun b u hb => ?_⟩
  · rw [upd_ne (fun z => by subst z; rw [ha] at n; cases n)]
    exact n
  · rw [upd_ne (ne q fun z => by cases z)]
    exact q
  · rw [upd_ne (ne q fun z => by cases z)]
    exact q
  · rw [upd_ne (ne q fun z => by cases z), q, Array.append_empty]
  · by_cases c : b = a
    · subst c
      rw [upd_same] at hb
      cases hb
      exact ⟨e, hz, its, n, rv, e⟩
    · rw [upd_ne c] at hb
      exact (I.hok b u hb).stay (fun _ _ _ q => q) (fun c q => by rw [upd_ne (ne q fun z => by cases z)]; exact q) fun c xs q => by rw [upd_ne (ne q fun z => by cases z)]; exact q
/-- behind an expression -/
def tFz (t : TE) : TE := fun σ H Q => t σ H fun v H1 => Q v H1 ∨ ∃ a vs, v = .ref a ∧ H1 a = some (.lst vs) ∧ ∀ o, Q v (upd H1 a (.frz o (.lst vs)))
theorem pe_fz {X : Cx} {e : Expr} {t : TE} (h : PE X e t) : PE X e (tFz t) := by
  refine ⟨fun pins s σ H Q I q => thn (h.run pins s σ H _ I q) fun u s1 hh => ?_⟩
  obtain ⟨v, H1, I1, r, q⟩ := hh
  rcases q with q | ⟨a, vs, rfl, ha, q⟩
  · exact ⟨v, H1, I1, r, q⟩
  · obtain ⟨o, I2⟩ := inv_frz I1 ha
    exact ⟨_, _, I2, r, q o⟩
/-- behind a statement -/
def nxFz (E : Ends) : Ends := { E with nx := fun σ H => E.nx σ H ∨ ∃ a vs, H a = some (.lst vs) ∧ ∀ o, E.nx σ (upd H a (.frz o (.lst vs))) }
theorem ps_fz {X : Cx} {st : Stmt} {t : TS} (h : PS X st t) : PS X st fun E σ H => t (nxFz E) σ H := by
  refine ⟨fun pins s σ H E I q => thn (h.run pins s σ H _ I q) fun f s1 hh => ?_⟩
  cases f with
  | next =>
    obtain ⟨σ', H', I1, q⟩ := hh
    rcases q with q | ⟨a, vs, ha, q⟩
    · exact ⟨σ', H', I1, q⟩
    · obtain ⟨o, I2⟩ := inv_frz I1 ha
      exact ⟨σ', _, I2, q o⟩
  | _ => exact hh
def kFz : D × TV.Env → R (D × TV.Env) := fun p => .ok (match p.1 with | .lst ds => .frl ds | d => d, p.2)
def mFz (m : ME) : ME := fun ρ => (m ρ).bind kFz
def kFzS (i : Nat) : Out × TV.Env → R (Out × TV.Env) := fun p => .ok (p.1, match p.1, p.2[i]? with | .nx, some (some (.lst ds)) => p.2.set i (some (.frl ds)) | _, _ => p.2)
def mFzS (i : Nat) (m : MS) : MS := fun ρ => (m ρ).bind (kFzS i)
section
variable {X : Cx} {G : GG} [NoSlot G] {W : WX}
theorem se_fz {e : Expr} {m : ME} (h : SE X G W e m) : SE X G W e (mFz m) := pe_wk (pe_fz h) fun σ H Q q => by
  obtain ⟨ρ, re, q⟩ := q
  refine ⟨ρ, re, ?_⟩
  unfold mFz at q
  cases em : m ρ with
  | exc c w ρ' => rw [em] at q; exact q
  | stuck => rw [em] at q; exact q
  | ok p =>
    rw [em] at q
    obtain ⟨d, ρ1⟩ := p
    intro v H1 r1 f1 rs
    cases d with
    | lst ds =>
      obtain ⟨⟨a, vs, rfl, ha, rv⟩, fr⟩ := rs
      obtain ⟨nw, old⟩ := fr a rfl rfl
      refine .inr ⟨a, vs, rfl, ha, fun o => ?_⟩
      have fx : Fix H1 (upd H1 a (.frz o (.lst vs))) := fix_upd ha rfl
      refine q (.ref a) _ (r1.other ha rfl nw) (fun b u hb n => ?_) (Res.of_rv (.frl (.inl ⟨o, upd_same⟩) (rv.mono fx)))
      have w := f1 b u hb n
      have : b ≠ a := fun z => by
        subst z
        rcases old with z | z
        · rw [hb] at z; cases z
        · exact n z
      exact ⟨by rw [upd_ne this]; exact w.1, w.2⟩
    | _ => exact .inl (q v H1 r1 f1 rs)
theorem ss_fz {st : Stmt} {A : List Nat} {i : Nat} {m : MS} (h : SS X G W st A m) : SS X G W st A (mFzS i m) := ps_wk (ps_fz h) fun E σ H q => by
  obtain ⟨ρ, re, q⟩ := q
  refine ⟨ρ, re, ?_⟩
  unfold mFzS at q
  cases em : m ρ with
  | exc c w ρ' => rw [em] at q; exact q
  | stuck => rw [em] at q; exact q
  | ok p =>
    rw [em] at q
    obtain ⟨o, ρ1⟩ := p
    cases o with
    | nx =>
      intro σ1 H1 r1 f1 sb
      have q : postS G W A ρ σ H E (kFzS i (.nx, ρ1)) := q
      by_cases hc : ∃ ds, ρ1[i]? = some (some (.lst ds))
      · obtain ⟨ds, e1⟩ := hc
        have ek : kFzS i (.nx, ρ1) = .ok (.nx, ρ1.set i (some (.frl ds))) := by
          unfold kFzS
          simp only [e1]
        rw [ek] at q
        obtain ⟨v, e2, a, vs, rfl, ha, rv⟩ := r1.val i _ e1
        have ow : own ρ1 σ1 a := ⟨i, _, e1, rfl, e2⟩
        have nw : ¬ own (ρ1.set i none) σ1 a := own_dropped r1 e1 rfl e2
        refine .inr ⟨a, vs, ha, fun o => ?_⟩
        have fx : Fix H1 (upd H1 a (.frz o (.lst vs))) := fix_upd ha rfl
        have r2 := (r1.drop i).other (o := .frz o (.lst vs)) ha rfl nw
        have r3 := r2.setN (ρ0 := ρ1) (σ0 := σ1) (H0 := H1) (Res.of_rv (.frl (.inl ⟨o, upd_same⟩) (rv.mono fx)) : Res G ρ1 σ1 H1 _ _ _ (.frl ds) (.ref a)) i
        have es : σ1.set i (some (.ref a)) = σ1 := by
          apply List.ext_getElem?
          intro j
          by_cases c : j = i
          · subst c
            have hl : j < σ1.length := (List.getElem?_eq_some_iff.mp e2).1
            rw [List.getElem?_set_self hl, e2]
          · rw [List.getElem?_set_ne (Ne.symm c)]
        rw [es, List.set_set] at r3
        refine q σ1 _ r3 (fun b u hb n => ?_) sb
        have w := f1 b u hb n
        have ne : b ≠ a := fun z => by
          subst z
          exact w.2 ow
        refine ⟨by rw [upd_ne ne]; exact w.1, fun z => w.2 ?_⟩
        obtain ⟨j, d, k1, k2, k3⟩ := z
        by_cases c : j = i
        · subst c
          rw [e2] at k3
          cases k3
          exact absurd rfl ne
        · rw [List.getElem?_set_ne (Ne.symm c)] at k1
          exact ⟨j, d, k1, k2, k3⟩
      · have ek : kFzS i (.nx, ρ1) = .ok (.nx, ρ1) := by
          unfold kFzS
          split
          · rename_i h1 h2
            exact absurd ⟨_, h2⟩ hc
          · rfl
        rw [ek] at q
        exact .inl (q σ1 H1 r1 f1 sb)
    | bk => exact q
    | ct => exact q
    | rt d => exact q
end
section
variable {ρ : TV.Env} {m : ME} {s : MS} {i : Nat}
theorem a_fz : mFz m ρ = (m ρ).bind kFz := id rfl
theorem k_fzL {ds : List D} : kFz (.lst ds, ρ) = .ok (.frl ds, ρ) := id rfl
theorem k_fzF {ds : List D} : kFz (.frl ds, ρ) = .ok (.frl ds, ρ) := id rfl
theorem k_fzT {ds : List D} : kFz (.tup ds, ρ) = .ok (.tup ds, ρ) := id rfl
theorem a_fzS : mFzS i s ρ = (s ρ).bind (kFzS i) := id rfl
theorem k_fzS {o : Out} : kFzS i (o, ρ) = .ok (o, match o, ρ[i]? with | .nx, some (some (.lst ds)) => ρ.set i (some (.frl ds)) | _, _ => ρ) := id rfl
end
end TV

/-! Tv26: what the meanings do where they are applied, one row each (for simp). -/
namespace TV
open PySem

/-- not to be taken for a row by definition -/
theorem nr {α : Type} {a b : α} (h : a = b) : a = b := h
section
variable {α β : Type} {N n i j : Nat} {A is vs ix : List Nat} {ρ τ : Env} {m n' : MS} {e u : ME} {t t' : MT} {os : List Opd} {f : List D → Option D} {d : D} {o : Opd}
theorem b_ok {a : α} {g : α → R β} : (R.ok a).bind g = g a := nr rfl
theorem b_stuck {g : α → R β} : (R.stuck : R α).bind g = .stuck := nr rfl
theorem a_def : mDef N n A m τ = fDef A n (m (padE N τ)) := nr rfl
theorem f_ok {p : Out × Env} : fDef A n (.ok p) = kBody A n p := nr rfl
theorem f_exc {c : Nat} {w : D} : fDef A n (.exc c w ρ) = .exc c w (outE A n ρ) := nr rfl
theorem k_rt : kBody A n (.rt d, ρ) = .ok (d, outE A n ρ) := nr rfl
theorem k_nx : kBody A n (.nx, ρ) = .ok (.non, outE A n ρ) := nr rfl
theorem a_do {k : D × Env → R (Out × Env)} : mDo e k ρ = (e ρ).bind k := nr rfl
theorem a_set : kSet i (d, ρ) = .ok (.nx, ρ.set i (some d)) := nr rfl
theorem a_set2 : kSet2 i j (d, ρ) = if d.own = true then .stuck else .ok (.nx, (ρ.set i (some d)).set j (some d)) := nr rfl
theorem a_drop : kDrop (d, ρ) = .ok (.nx, ρ) := nr rfl
theorem a_ret : kRet (d, ρ) = .ok (.rt d, ρ) := nr rfl
theorem a_unp : kUnp is (d, ρ) = (gT is d ρ).bind fun ρ => .ok (.nx, ρ) := nr rfl
theorem a_seq : mSeq m n' ρ = (m ρ).bind (kSeq n') := nr rfl
theorem k_seq : kSeq n' (.nx, ρ) = n' ρ := nr rfl
theorem k_seqr : kSeq n' (.rt d, ρ) = .ok (.rt d, ρ) := nr rfl
theorem k_seqb : kSeq n' (.bk, ρ) = .ok (.bk, ρ) := nr rfl
theorem k_seqc : kSeq n' (.ct, ρ) = .ok (.ct, ρ) := nr rfl
def kOp (os : List Opd) (f : List D → Option D) : List (Option D) × Env → R (D × Env) := fun p => match (rds os p.1 p.2).bind f with
  | some d => .ok (d, p.2)
  | none => .stuck
theorem a_op : mOp os f ρ = (ev os ρ).bind (kOp os f) := nr rfl
theorem k_op {xs : List (Option D)} : kOp os f (xs, ρ) = match (rds os xs ρ).bind f with
  | some d => .ok (d, ρ)
  | none => .stuck := nr rfl
theorem a_c : mC d ρ = .ok (d, ρ) := nr rfl
theorem a_var : mVar i ρ = match ρ[i]? with
  | some (some d) => .ok (d, if d.own then ρ.set i none else ρ)
  | _ => .stuck := nr rfl
theorem a_b : mB e ρ = (e ρ).bind toB := nr rfl
theorem k_b {b : Bool} : toB (.bl b, ρ) = .ok (b, ρ) := nr rfl
theorem a_then {k : Bool → Env → R α} : tThen t k ρ = (t ρ).bind fun p => k p.1 p.2 := nr rfl
theorem k_and1 : kAnd t true ρ = t ρ := nr rfl
theorem k_and0 : kAnd t false ρ = .ok (false, ρ) := nr rfl
theorem k_or1 : kOr t true ρ = .ok (true, ρ) := nr rfl
theorem k_or0 : kOr t false ρ = t ρ := nr rfl
theorem k_not1 : kNot true ρ = .ok (false, ρ) := nr rfl
theorem k_not0 : kNot false ρ = .ok (true, ρ) := nr rfl
theorem k_andV1 : kAndV e true ρ = e ρ := nr rfl
theorem k_andV0 : kAndV e false ρ = .ok (.bl false, ρ) := nr rfl
theorem k_orV1 : kOrV e true ρ = .ok (.bl true, ρ) := nr rfl
theorem k_orV0 : kOrV e false ρ = e ρ := nr rfl
theorem k_notV1 : kNotV true ρ = .ok (.bl false, ρ) := nr rfl
theorem k_notV0 : kNotV false ρ = .ok (.bl true, ρ) := nr rfl
theorem k_if1 : kIf e u true ρ = e ρ := nr rfl
theorem k_if0 : kIf e u false ρ = u ρ := nr rfl
theorem k_ifS1 : kIfS m n' true ρ = m ρ := nr rfl
theorem k_ifS0 : kIfS m n' false ρ = n' ρ := nr rfl
theorem k_ifT1 : kIfT t t' true ρ = t ρ := nr rfl
theorem k_ifT0 : kIfT t t' false ρ = t' ρ := nr rfl
theorem k_notV {b : Bool} : kNotV b ρ = .ok (.bl !b, ρ) := by cases b <;> rfl
theorem k_not {b : Bool} : kNot b ρ = .ok (!b, ρ) := by cases b <;> rfl
theorem a_yes : mYes ρ = .ok (true, ρ) := nr rfl
theorem a_no : mNo ρ = .ok (false, ρ) := nr rfl
theorem a_next : mNext ρ = .ok (.nx, ρ) := nr rfl
theorem a_never : mNever ρ = .stuck := nr rfl
theorem a_par : mPar i j e u ρ = (e ρ).bind (kPar2 j u i) := nr rfl
theorem k_par : kPar2 j u i (d, ρ) = (u ρ).bind fun q => .ok (.nx, (q.2.set i (some d)).set j (some q.1)) := nr rfl
theorem a_for {mi : MI} {g : D → Env → R Env} : mFor mi g m ρ = (mi ρ).bind (kFor g m) := nr rfl
theorem k_for {g : D → Env → R Env} {ds : List D} : kFor g m (ds, ρ) = forL g m ds ρ := nr rfl
theorem a_i1 {h : D → Option (List D)} : mI1 e h ρ = (e ρ).bind (kSeqI h) := nr rfl
theorem k_i1 {h : D → Option (List D)} : kSeqI h (d, ρ) = match h d with
  | some ds => .ok (ds, ρ)
  | none => .stuck := nr rfl
theorem a_io {h : List D → Option (List D)} : mIO os h ρ = (ev os ρ).bind (kOI os h) := nr rfl
theorem k_io {h : List D → Option (List D)} {xs : List (Option D)} : kOI os h (xs, ρ) = match (rds os xs ρ).bind h with
  | some ds => .ok (ds, ρ)
  | none => .stuck := nr rfl
theorem a_call {F : FV} : mCall os F ρ = (ev os ρ).bind (kCall os F) := nr rfl
theorem k_call {F : FV} {xs : List (Option D)} : kCall os F (xs, ρ) = match takeA os xs ρ with
  | some (ds, ρ) => match F (ds.map some) with
    | .ok (d, outs) => .ok (d, wbE os ds outs ρ)
    | .exc c w outs => .exc c w (wbE os ds outs ρ)
    | .stuck => .stuck
  | none => .stuck := nr rfl
theorem a_callP {F : FV} {dfl : List D} : mCallP os dfl ix F ρ = (ev os ρ).bind (kCallP os dfl ix F) := nr rfl
theorem k_callP {F : FV} {dfl : List D} {xs : List (Option D)} : kCallP os dfl ix F (xs, ρ) = match takeA os xs ρ with
  | some (ds, ρ) => match F (permL ix ((ds ++ dfl).map some)) with
    | .ok (d, _) => .ok (d, ρ)
    | .exc c w _ => .exc c w ρ
    | .stuck => .stuck
  | none => .stuck := nr rfl
theorem a_chain {p q : Int → Int → Bool} {oa ob oc : Opd} : mChain p q oa ob oc ρ = (ev [oa, ob] ρ).bind (kChain p q oa ob oc) := nr rfl
theorem k_chain {p q : Int → Int → Bool} {oa ob oc : Opd} {xs : List (Option D)} : kChain p q oa ob oc (xs, ρ) = match rds [oa, ob] xs ρ with
  | some [.int i, .int j] => if p i j = true then mOp [oc] (fun ds => dIntB q (.int j :: ds)) ρ else .ok (.bl false, ρ)
  | _ => .stuck := nr rfl
theorem a_mut {g : List D → List D → Option (List D × D)} : mMut i os g ρ = match ρ[i]? with
  | some (some (.lst _)) => (ev os ρ).bind (kMut i os g)
  | _ => .stuck := nr rfl
theorem k_mut {g : List D → List D → Option (List D × D)} {xs : List (Option D)} : kMut i os g (xs, ρ) = match ρ[i]?, rds os xs ρ with
  | some (some (.lst xs)), some ds => match g xs ds with
    | some (ys, z) => .ok (z, ρ.set i (some (.lst ys)))
    | none => .stuck
  | _, _ => .stuck := nr rfl
theorem a_sto {g : D → D → D → Option D} : mSto i e o g ρ = match ρ[i]? with
  | some (some _) => (e ρ).bind (kSto i o g)
  | _ => .stuck := nr rfl
theorem k_sto {g : D → D → D → Option D} : kSto i o g (d, ρ) = (ev [o] ρ).bind fun q => match q.2[i]?, rds [o] q.1 q.2 with
  | some (some x), some [k] => match g x k d with
    | some y => .ok (.nx, q.2.set i (some y))
    | none => .stuck
  | _, _ => .stuck := nr rfl
theorem a_lc {mi : MI} {g : D → Env → R Env} : mLc vs mi g t e ρ = (mi ρ).bind (kLc vs g t e) := nr rfl
theorem k_lc {g : D → Env → R Env} {ds : List D} : kLc vs g t e (ds, ρ) = lcL vs g t e ds (wipeE ρ vs) [] := nr rfl
theorem b_exc {c : Nat} {w : D} {g : α → R β} : (R.exc c w ρ : R α).bind g = .exc c w ρ := nr rfl
theorem a_raise {c : Nat} : mRaise c e ρ = (e ρ).bind (kRaise c) := nr rfl
theorem k_raise {c : Nat} : kRaise c (d, ρ) = if d.own = true then .stuck else .exc c d ρ := nr rfl
theorem a_par3 {l : Nat} {o : ME} : mPar3 i j l e u o ρ = (ev [.tmp e pAny, .tmp u pAny, .tmp o pAny] ρ).bind (kPar3 i j l) := nr rfl
theorem k_par3 {l : Nat} {d1 d2 d3 : D} : kPar3 i j l ([some d1, some d2, some d3], ρ) = .ok (.nx, ((ρ.set i (some d1)).set j (some d2)).set l (some d3)) := nr rfl
theorem a_try {sb : Nat → Nat → Bool} {kn : List Nat} {hs : List HdM} : mTry sb kn m hs ρ = kTry sb kn hs (m ρ) := nr rfl
theorem kt_ok {sb : Nat → Nat → Bool} {kn : List Nat} {hs : List HdM} {p : Out × Env} : kTry sb kn hs (.ok p) = .ok p := nr rfl
theorem kt_exc {sb : Nat → Nat → Bool} {kn : List Nat} {hs : List HdM} {c : Nat} {w : D} : kTry sb kn hs (.exc c w ρ) = if kn.contains c = true then hdl sb hs c w ρ else .stuck := nr rfl
theorem a_new : mDicNew ρ = .ok (.dic [] [], ρ) := nr rfl
theorem a_gN : gN i d ρ = .ok (ρ.set i (some d)) := nr rfl
theorem a_gT {ds : List D} : gT is (.tup ds) ρ = gNs is ds ρ := nr rfl
theorem d_lt {x y : Int} : dLt [.int x, .int y] = some (.bl (decide (x < y))) := nr rfl
theorem d_le {x y : Int} : dLe [.int x, .int y] = some (.bl (decide (x ≤ y))) := nr rfl
theorem d_gt {x y : Int} : dGt [.int x, .int y] = some (.bl (decide (y < x))) := nr rfl
theorem d_ge {x y : Int} : dGe [.int x, .int y] = some (.bl (decide (y ≤ x))) := nr rfl
theorem d_intB {p : Int → Int → Bool} {x y : Int} : dIntB p [.int x, .int y] = some (.bl (p x y)) := nr rfl
end
theorem rg1 : List.range 1 = [0] := nr rfl
theorem rg2 : List.range 2 = [0, 1] := nr rfl
theorem rg3 : List.range 3 = [0, 1, 2] := nr rfl
theorem rg4 : List.range 4 = [0, 1, 2, 3] := nr rfl
theorem rg5 : List.range 5 = [0, 1, 2, 3, 4] := nr rfl
theorem rg6 : List.range 6 = [0, 1, 2, 3, 4, 5] := nr rfl
theorem rg7 : List.range 7 = [0, 1, 2, 3, 4, 5, 6] := nr rfl
theorem rg8 : List.range 8 = [0, 1, 2, 3, 4, 5, 6, 7] := nr rfl
theorem own_int {i : Int} : (D.int i).own = false := nr rfl
theorem own_bl {b : Bool} : (D.bl b).own = false := nr rfl
theorem own_str {x : Str} : (D.str x).own = false := nr rfl
theorem own_non : D.non.own = false := nr rfl
theorem own_tup {ds : List D} : (D.tup ds).own = false := nr rfl
theorem own_ins {c : Nat} {ds : List D} : (D.ins c ds).own = false := nr rfl
theorem own_frl {ds : List D} : (D.frl ds).own = false := nr rfl
theorem own_lst {ds : List D} : (D.lst ds).own = true := nr rfl
theorem own_dic {ks : List L2.Key} {ds : List D} : (D.dic ks ds).own = true := nr rfl
theorem fl_str {x : Str} : (D.str x).fl = some (L2.V.str x) := nr rfl
theorem fl_int {x : Int} : (D.int x).fl = some (L2.V.int x) := nr rfl
end TV

/-! Tv27: a value of ints, texts, None, tuples and lists of them is equal to itself. -/
namespace TV
open PySem
mutual
/-- built from ints, bools, texts (of at most 1000 signs), None, tuples, lists, n deep at most -/
def D.nice : Nat → D → Bool
  | _, .non => true
  | _, .bl _ => true
  | _, .int _ => true
  | _, .str x => (PyData.str x).canLay0
  | n + 1, .tup xs => D.nices n xs
  | n + 1, .lst xs => D.nices n xs
  | n + 1, .frl xs => D.nices n xs
  | _, _ => false
def D.nices : Nat → List D → Bool
  | _, [] => true
  | n, x :: xs => D.nice n x && D.nices n xs
end
mutual
theorem nice_pd : ∀ {n : Nat} {d : D}, D.nice n d = true → ∃ p, d.pd = some p ∧ p.canLay0 = true ∧ p.depth ≤ n ∧ PyData.eqv p p = true
  | _, .non, _ => ⟨.none, rfl, rfl, Nat.zero_le _, rfl⟩
  | _, .bl b, _ => ⟨.bool b, rfl, rfl, Nat.zero_le _, by simp [PyData.eqv]⟩
  | _, .int i, _ => ⟨.int i, rfl, rfl, Nat.zero_le _, by simp [PyData.eqv]⟩
  | n, .str x, h => ⟨.str x, rfl, by cases n <;> exact h, Nat.zero_le _, by simp [PyData.eqv]⟩
  | n + 1, .tup xs, h => by
    obtain ⟨ps, h1, h2, h3, h4⟩ := nices_pd (n := n) (ds := xs) h
    exact ⟨.tuple ps, by simp [D.pd, h1], h2, Nat.succ_le_succ h3, by simpa [PyData.eqv] using h4⟩
  | n + 1, .lst xs, h => by
    obtain ⟨ps, h1, h2, h3, h4⟩ := nices_pd (n := n) (ds := xs) h
    exact ⟨.list ps, by simp [D.pd, h1], h2, Nat.succ_le_succ h3, by simpa [PyData.eqv] using h4⟩
  | n + 1, .frl xs, h => by
    obtain ⟨ps, h1, h2, h3, h4⟩ := nices_pd (n := n) (ds := xs) h
    exact ⟨.list ps, by simp [D.pd, h1], h2, Nat.succ_le_succ h3, by simpa [PyData.eqv] using h4⟩
  | 0, .tup _, h => by simp [D.nice] at h
  | 0, .lst _, h => by simp [D.nice] at h
  | 0, .frl _, h => by simp [D.nice] at h
  | n, .ins _ _, h => by cases n <;> simp [D.nice] at h
  | n, .dic _ _, h => by cases n <;> simp [D.nice] at h
theorem nices_pd : ∀ {n : Nat} {ds : List D}, D.nices n ds = true → ∃ ps, D.pds ds = some ps ∧ PyData.canLayAll0 ps = true ∧ PyData.depthAll ps ≤ n ∧ PyData.eqvAll ps ps = true
  | _, [], _ => ⟨[], rfl, rfl, Nat.zero_le _, rfl⟩
  | n, x :: xs, h => by
    have h : (D.nice n x && D.nices n xs) = true := h
    rw [Bool.and_eq_true] at h
    obtain ⟨p, a1, a2, a3, a4⟩ := nice_pd h.1
    obtain ⟨ps, b1, b2, b3, b4⟩ := nices_pd h.2
    refine ⟨p :: ps, by simp [D.pds, a1, b1], by simp [PyData.canLayAll0, a2, b2], ?_, by simp [PyData.eqvAll, a4, b4]⟩
    simp only [PyData.depthAll]
    omega
end
theorem eq_self' {n : Nat} {d : D} (hn : n ≤ 64) (h : D.nice n d = true) : dEqB d d = some true := by
  obtain ⟨p, a1, a2, a3, a4⟩ := nice_pd h
  have hs : SeqAt.shaped p = true := by
    unfold SeqAt.shaped
    rw [Bool.and_eq_true, decide_eq_true_eq]
    exact ⟨a2, by omega⟩
  simp [dEqB, a1, hs, a4]
theorem d_eqS {d : D} (h : D.nice 8 d = true) : dEq [d, d] = some (.bl true) := by
  show (dEqB d d).map D.bl = _
  rw [eq_self' (by decide) h]
  rfl
theorem d_neS {d : D} (h : D.nice 8 d = true) : dNe [d, d] = some (.bl false) := by
  show (dEqB d d).map (fun k => D.bl (!k)) = _
  rw [eq_self' (by decide) h]
  rfl
/-- unequal: by what they are as data -/
theorem d_neU {a b : D} {p q : PyData} (h1 : a.pd = some p) (h2 : b.pd = some q) (s1 : SeqAt.shaped p = true) (s2 : SeqAt.shaped q = true) (h : PyData.eqv p q = false) : dNe [a, b] = some (.bl true) ∧ dEq [a, b] = some (.bl false) := by
  have e : dEqB a b = some false := by simp [dEqB, h1, h2, s1, s2, h]
  constructor
  · show (dEqB a b).map (fun k => D.bl (!k)) = _
    rw [e]; rfl
  · show (dEqB a b).map D.bl = _
    rw [e]; rfl
theorem nices_ints {n : Nat} : ∀ l : List Int, D.nices n (l.map .int) = true
  | [] => rfl
  | a :: l => by
    show (D.nice n (.int a) && D.nices n (l.map .int)) = true
    rw [nices_ints l, Bool.and_true]
    cases n <;> rfl
theorem nices_mem {n : Nat} : ∀ {l : List D}, (∀ d ∈ l, D.nice n d = true) → D.nices n l = true
  | [], _ => rfl
  | a :: l, h => by
    show (D.nice n a && D.nices n l) = true
    rw [nices_mem fun d m => h d (List.mem_cons_of_mem _ m), h a List.mem_cons_self]
    rfl
end TV

namespace K58
open PySem PySem.Spec PyProof.Rows L2 TV PySem.RFX
def top (i : Nat) : Stmt := PySem.Challenge.pw_turnedvalleys_k58_high_stones_alone.main.body.getD i (.Pass ⟨0, 0, 0, 0⟩)
def nm : Nat → List Str := fun c => match c with | 0 => ["stones", "ends", "rule"] | _ => []
def sb : Nat → Nat → Bool := fun c j => c == j || j == 1
abbrev ix_BadSize : Nat := 2
def kn : List Nat := [2]
def js : List Nat := [2]
structure Txt (P : Program) (K : PySem.W.Frag) (G : GG) (mg : Str → Option Value) : Prop where
  n_abs : mg "abs" = none
  n_dict : mg "dict" = none
  n_enumerate : mg "enumerate" = none
  n_int : mg "int" = none
  n_len : mg "len" = none
  n_list : mg "list" = none
  n_max : mg "max" = none
  n_min : mg "min" = none
  n_range : mg "range" = none
  n_sorted : mg "sorted" = none
  n_tuple : mg "tuple" = none
  c_BOTH_WALLS : ∃ t, mg "BOTH_WALLS" = some (.int (3) t)
  c_LEAST_LENGTH : ∃ t, mg "LEAST_LENGTH" = some (.int (2) t)
  c_LEAST_LOT : ∃ t, mg "LEAST_LOT" = some (.int (2) t)
  c_MOST_STONES : ∃ t, mg "MOST_STONES" = some (.int (40) t)
  c_OPEN : ∃ t, mg "OPEN" = some (.str "open" t)
  c_STONE_LIMIT : ∃ t, mg "STONE_LIMIT" = some (.int (1000000000000000) t)
  c_WALL : ∃ t, mg "WALL" = some (.str "wall" t)
  c_WALL_AHEAD : ∃ t, mg "WALL_AHEAD" = some (.int (1) t)
  c_WALL_BEHIND : ∃ t, mg "WALL_BEHIND" = some (.int (2) t)
  f_ends : Flds G "ends"
  f_rule : Flds G "rule"
  f_stones : Flds G "stones"
  k_Row : Cls K (G.cl 0)
  a_Row : ∀ p ∈ ([("stones", 1), ("ends", 2), ("rule", 3)] : List (Str × Nat)), NoAttr K (G.cl 0) p.1
  x_BadSize : FnEx P K mg G "BadSize" 2
  m_BadSize : mg "BadSize" = some (.ref (G.cl 2))
  xall : ∀ c ∈ kn, ∃ x, FnEx P K mg G x c
  exm : ∀ c ∈ kn, ∀ j ∈ js, PySem.W.exmOne K (.ref (G.cl c)) (.ref (G.cl j)) = some (sb c j)
section
variable {P : Program} {w : World} {K : PySem.W.Frag} {mg : Str → Option Value} {base : Heap} {cl : Nat → Addr}
abbrev s__law_pool : Stmt := top 42
def m__law_pool : MS := mSeq (mSet 2 (mC (.int 0))) (mSeq (mIfS (mB (mOp [.var 1 pAny, .tmp (mOp [.var 0 pAny] dLen) pAny] dLt)) (mSet 2 (mOp [.var 0 pAny, .var 1 pAny] dIx)) (mIfS (mB (mOp [.var 0 pAny] dTru)) (mSet 2 (mOp [.var 0 pAny, .tmp (mC (.int 0)) pAny] dIx)) (mNext))) (mSeq (mSet 3 (mOp [.tmp (mOp [.var 2 pAny] dInt) pAny, .tmp (mOp [.tmp (mOp [.tmp (mOp [.tmp (mC (.int 1)) pAny] dNeg) pAny, .var 2 pAny] dSub) pAny] dInt) pAny] dMax2)) (mSeq (mSet 4 (mOp [.tmp (mOp [.tmp (mOp [.tmp (mOp [.tmp (mOp [.tmp (mOp [.tmp (mOp [.tmp (mOp [.var 3 pAny] dInt) pAny, .tmp (mC (.int 2147483629)) pAny] dMod) pAny, .tmp (mOp [.tmp (mOp [.tmp (mC (.int 7919)) pAny, .var 1 pAny] dMulS) pAny, .var 1 pAny] dMulS) pAny] dAdd) pAny, .tmp (mOp [.tmp (mC (.int 31)) pAny, .var 1 pAny] dMulS) pAny] dAdd) pAny, .tmp (mC (.int 17)) pAny] dAdd) pAny, .tmp (mC (.int 48271)) pAny] dMulS) pAny] dInt) pAny, .tmp (mC (.int 2147483647)) pAny] dMod)) (mDo (mOp [.tmp (mOp [.var 3 pAny, .tmp (mOp [.tmp (mOp [.var 3 pAny, .tmp (mOp [.tmp (mC (.int 10)) pAny, .tmp (mC (.int 18)) pAny] dPow) pAny] dGe) pAny] dInt) pAny] dMulS) pAny, .var 4 pAny] dLst) kRet))))
def F__law_pool : FV := mDef 5 2 [2, 2, 2, 3, 4] m__law_pool
theorem sc__law_pool : FnScope ["_law_script", "_law_k", "_law_cell", "_law_big", "_law_mixed"] ["_law_script", "_law_k"] (defScope s__law_pool) := ⟨rfl, rfl, rfl, by decide +kernel, rfl, by decide +kernel, by decide +kernel⟩
theorem core__law_pool {f : Addr} {fd : FuncData} (T : Txt P K (GG.of K cl nm) mg) (Fn : Fun K "_law_pool" "_law_pool" s__law_pool f fd) : FnOk P w K mg base (L2.CX P w) 1 f fd ["_law_script", "_law_k"] (spV (GG.of K cl nm) 2 F__law_pool) := by
  refine Fn.okX sc__law_pool (fun vs H Q E h => h.1) (fun cdv A outer s H vs Q E hr h => ?_)
  have c := ct_bodyX (P := P) (w := w) (mg := mg) (base := base) (qual := "_law_pool") (f := f) (cd := cdv) (outer := outer) (s := s) (H := H) (E := E) (G := (GG.of K cl nm)) rfl sc__law_pool hr
  exact body_ok (X := cxOf (L2.CX P w) P w K mg base ["_law_script", "_law_k", "_law_cell", "_law_big", "_law_mixed"] "_law_pool" (defScope s__law_pool) f cdv A outer s H E) (N := ["_law_script", "_law_k", "_law_cell", "_law_big", "_law_mixed"]) (A := [2, 2, 2, 3, 4]) (m := m__law_pool) (body := defBody s__law_pool) (sss_cons (ss_set c rfl (Or.inl rfl) (se_int))
    (sss_cons (ss_if (st_lt (so_var (pv 1)) (so_tmp (se_len c T.n_len (so_var (pv 0))))) (sss_one (ss_set c rfl (Or.inl rfl) (se_ix c (so_var (pv 0)) (so_var (pv 1))))) (sss_one (ss_if (st_truth c (so_var (pv 0))) (sss_one (ss_set c rfl (Or.inl rfl) (se_ix c (so_var (pv 0)) (so_tmp (se_int))))) (sss_nil))))
    (sss_cons (ss_set c rfl (Or.inl rfl) (se_max2 c T.n_max (so_tmp (se_intOf T.n_int (so_var (pv 2)))) (so_tmp (se_intOf T.n_int (so_tmp (se_sub (so_tmp (se_neg (so_tmp (se_int)))) (so_var (pv 2))))))))
    (sss_cons (ss_set c rfl (Or.inl rfl) (se_mod (so_tmp (se_intOf T.n_int (so_tmp (se_mulS (so_tmp (se_add c (so_tmp (se_add c (so_tmp (se_add c (so_tmp (se_mod (so_tmp (se_intOf T.n_int (so_var (pv 3)))) (so_tmp (se_int)))) (so_tmp (se_mulS (so_tmp (se_mulS (so_tmp (se_int)) (so_var (pv 1)))) (so_var (pv 1)))))) (so_tmp (se_mulS (so_tmp (se_int)) (so_var (pv 1)))))) (so_tmp (se_int)))) (so_tmp (se_int)))))) (so_tmp (se_int))))
    (sss_one (ss_ret (se_lst (so_cons (so_tmp (se_mulS (so_var (pv 3)) (so_tmp (se_intOf T.n_int (so_tmp (se_ge (so_var (pv 3)) (so_tmp (se_pow (so_tmp (se_int)) (so_tmp (se_int)))))))))) (so_cons (so_var (pv 4)) (so_nil)))))))))) h (by decide)
theorem ok__law_pool {f : Addr} {fd : FuncData} (T : Txt P K (GG.of K cl nm) mg) (Fn : Fun K "_law_pool" "_law_pool" s__law_pool f fd) (hm : mg "_law_pool" = some (.ref f)) : FnH P w K mg base (GG.of K cl nm) 1 "_law_pool" ["_law_script", "_law_k"] F__law_pool :=
  ⟨f, fd, core__law_pool T Fn, hm, Fn.kp, Fn.binds fun _ _ _ _ _ _ us hl => match us, hl with | [_, _], _ => rfl⟩
abbrev s__law_take : Stmt := top 43
def m__law_take : MS := mSeq (mIfS (mB (mOp [.tmp (mOp [.var 0 pAny, .tmp (mC (.int 0)) pAny] dIx) pAny, .tmp (mC (.int 0)) pAny] dGt)) (mSeq (mSet 2 (mOp [.tmp (mOp [.tmp (mOp [.var 0 pAny, .tmp (mC (.int 0)) pAny] dIx) pAny] dInt) pAny, .var 1 pAny] dMod)) (mSeq (mSto 0 (mOp [.tmp (mOp [.var 0 pAny, .tmp (mC (.int 0)) pAny] dIx) pAny, .var 1 pAny] dDiv) (.tmp (mC (.int 0)) pAny) fSetL) (mDo (mVar 2) kRet))) (mNext)) (mSeq (mSto 0 (mOp [.tmp (mOp [.tmp (mOp [.tmp (mOp [.tmp (mOp [.var 0 pAny, .tmp (mC (.int 1)) pAny] dIx) pAny, .tmp (mC (.int 39373)) pAny] dMulS) pAny, .tmp (mC (.int 7)) pAny] dAdd) pAny] dInt) pAny, .tmp (mC (.int 2147483647)) pAny] dMod) (.tmp (mC (.int 1)) pAny) fSetL) (mDo (mOp [.tmp (mOp [.tmp (mOp [.tmp (mOp [.tmp (mOp [.tmp (mOp [.tmp (mOp [.var 0 pAny, .tmp (mC (.int 1)) pAny] dIx) pAny, .tmp (mOp [.var 0 pAny, .tmp (mC (.int 1)) pAny] dIx) pAny] dMulS) pAny] dInt) pAny, .tmp (mC (.int 2147483629)) pAny] dMod) pAny, .tmp (mC (.int 32)) pAny] dDiv) pAny] dInt) pAny, .var 1 pAny] dMod) kRet))
def F__law_take : FV := mDef 3 2 [2] m__law_take
theorem sc__law_take : FnScope ["_law_source", "_law_top", "_law_drawn"] ["_law_source", "_law_top"] (defScope s__law_take) := ⟨rfl, rfl, rfl, by decide +kernel, rfl, by decide +kernel, by decide +kernel⟩
theorem core__law_take {f : Addr} {fd : FuncData} (T : Txt P K (GG.of K cl nm) mg) (Fn : Fun K "_law_take" "_law_take" s__law_take f fd) : FnOk P w K mg base (L2.CX P w) 1 f fd ["_law_source", "_law_top"] (spV (GG.of K cl nm) 2 F__law_take) := by
  refine Fn.okX sc__law_take (fun vs H Q E h => h.1) (fun cdv A outer s H vs Q E hr h => ?_)
  have c := ct_bodyX (P := P) (w := w) (mg := mg) (base := base) (qual := "_law_take") (f := f) (cd := cdv) (outer := outer) (s := s) (H := H) (E := E) (G := (GG.of K cl nm)) rfl sc__law_take hr
  exact body_ok (X := cxOf (L2.CX P w) P w K mg base ["_law_source", "_law_top", "_law_drawn"] "_law_take" (defScope s__law_take) f cdv A outer s H E) (N := ["_law_source", "_law_top", "_law_drawn"]) (A := [2]) (m := m__law_take) (body := defBody s__law_take) (sss_cons (ss_if (st_gt (so_tmp (se_ix c (so_var (pv 0)) (so_tmp (se_int)))) (so_tmp (se_int))) (sss_cons (ss_set c rfl (Or.inl rfl) (se_mod (so_tmp (se_intOf T.n_int (so_tmp (se_ix c (so_var (pv 0)) (so_tmp (se_int)))))) (so_var (pv 1))))
    (sss_cons (ss_lput (pv 0) (so_tmp (se_int)) (se_div (so_tmp (se_ix c (so_var (pv 0)) (so_tmp (se_int)))) (so_var (pv 1))))
    (sss_one (ss_ret (se_var (pv 2)))))) (sss_nil))
    (sss_cons (ss_lput (pv 0) (so_tmp (se_int)) (se_mod (so_tmp (se_intOf T.n_int (so_tmp (se_add c (so_tmp (se_mulS (so_tmp (se_ix c (so_var (pv 0)) (so_tmp (se_int)))) (so_tmp (se_int)))) (so_tmp (se_int)))))) (so_tmp (se_int))))
    (sss_one (ss_ret (se_mod (so_tmp (se_intOf T.n_int (so_tmp (se_div (so_tmp (se_mod (so_tmp (se_intOf T.n_int (so_tmp (se_mulS (so_tmp (se_ix c (so_var (pv 0)) (so_tmp (se_int)))) (so_tmp (se_ix c (so_var (pv 0)) (so_tmp (se_int)))))))) (so_tmp (se_int)))) (so_tmp (se_int)))))) (so_var (pv 1))))))) h (by decide)
theorem ok__law_take {f : Addr} {fd : FuncData} (T : Txt P K (GG.of K cl nm) mg) (Fn : Fun K "_law_take" "_law_take" s__law_take f fd) (hm : mg "_law_take" = some (.ref f)) : FnH P w K mg base (GG.of K cl nm) 1 "_law_take" ["_law_source", "_law_top"] F__law_take :=
  ⟨f, fd, core__law_take T Fn, hm, Fn.kp, Fn.binds fun _ _ _ _ _ _ us hl => match us, hl with | [_, _], _ => rfl⟩
abbrev s__law_one : Stmt := top 44
def m__law_one : MS := mDo (mOp [.var 1 pAny, .tmp (mCall [.var 0 pAny, .tmp (mOp [.var 1 pAny] dLen) pAny] F__law_take) pAny] dIx) kRet
def F__law_one : FV := mDef 2 2 [] m__law_one
theorem sc__law_one : FnScope ["_law_source", "_law_things"] ["_law_source", "_law_things"] (defScope s__law_one) := ⟨rfl, rfl, rfl, by decide +kernel, rfl, by decide +kernel, by decide +kernel⟩
theorem core__law_one {f : Addr} {fd : FuncData} (T : Txt P K (GG.of K cl nm) mg) (Fn : Fun K "_law_one" "_law_one" s__law_one f fd) (h__law_take : FnH P w K mg base (GG.of K cl nm) 1 "_law_take" ["_law_source", "_law_top"] F__law_take) : FnOk P w K mg base (L2.CX P w) 2 f fd ["_law_source", "_law_things"] (spV (GG.of K cl nm) 2 F__law_one) := by
  refine Fn.okX sc__law_one (fun vs H Q E h => h.1) (fun cdv A outer s H vs Q E hr h => ?_)
  have c := ct_bodyX (P := P) (w := w) (mg := mg) (base := base) (qual := "_law_one") (f := f) (cd := cdv) (outer := outer) (s := s) (H := H) (E := E) (G := (GG.of K cl nm)) rfl sc__law_one hr
  exact body_ok (X := cxOf (L2.CX P w) P w K mg base ["_law_source", "_law_things"] "_law_one" (defScope s__law_one) f cdv A outer s H E) (N := ["_law_source", "_law_things"]) (A := []) (m := m__law_one) (body := defBody s__law_one) (sss_one (ss_ret (se_ix c (so_var (pv 1)) (so_tmp (se_fn h__law_take rfl (by decide) c.tk hr (so_cons (so_var (pv 0)) (so_cons (so_tmp (se_len c T.n_len (so_var (pv 1)))) (so_nil)))))))) h (by decide)
theorem ok__law_one {f : Addr} {fd : FuncData} (T : Txt P K (GG.of K cl nm) mg) (Fn : Fun K "_law_one" "_law_one" s__law_one f fd) (hm : mg "_law_one" = some (.ref f)) (h__law_take : FnH P w K mg base (GG.of K cl nm) 1 "_law_take" ["_law_source", "_law_top"] F__law_take) : FnH P w K mg base (GG.of K cl nm) 2 "_law_one" ["_law_source", "_law_things"] F__law_one :=
  ⟨f, fd, core__law_one T Fn h__law_take, hm, Fn.kp, Fn.binds fun _ _ _ _ _ _ us hl => match us, hl with | [_, _], _ => rfl⟩
abbrev s__law_shuffled : Stmt := top 45
abbrev t__law_shuffled_1 : MT := mB (mOp [.var 2 pAny, .tmp (mOp [] dLst) pAny] dNe)
abbrev b__law_shuffled_2 : MS := mDo (mMut 3 [.tmp (mMut 2 [.tmp (mCall [.var 0 pAny, .tmp (mOp [.var 2 pAny] dLen) pAny] F__law_take) pAny] fPopAt) pAny] fAppend) kDrop
def m__law_shuffled : MS := mSeq (mPar 2 3 (mOp [.var 1 pAny] dLstOf) (mOp [] dLst)) (mSeq (mWhile t__law_shuffled_1 b__law_shuffled_2) (mDo (mOp [.var 3 pAny] dTupOf) kRet))
def F__law_shuffled : FV := mDef 4 2 [2, 3] m__law_shuffled
theorem sc__law_shuffled : FnScope ["_law_source", "_law_things", "_law_left", "_law_found"] ["_law_source", "_law_things"] (defScope s__law_shuffled) := ⟨rfl, rfl, rfl, by decide +kernel, rfl, by decide +kernel, by decide +kernel⟩
theorem core__law_shuffled {f : Addr} {fd : FuncData} (T : Txt P K (GG.of K cl nm) mg) (Fn : Fun K "_law_shuffled" "_law_shuffled" s__law_shuffled f fd) (h__law_take : FnH P w K mg base (GG.of K cl nm) 1 "_law_take" ["_law_source", "_law_top"] F__law_take) : FnOk P w K mg base (L2.CX P w) 2 f fd ["_law_source", "_law_things"] (spV (GG.of K cl nm) 2 F__law_shuffled) := by
  refine Fn.okX sc__law_shuffled (fun vs H Q E h => h.1) (fun cdv A outer s H vs Q E hr h => ?_)
  have c := ct_bodyX (P := P) (w := w) (mg := mg) (base := base) (qual := "_law_shuffled") (f := f) (cd := cdv) (outer := outer) (s := s) (H := H) (E := E) (G := (GG.of K cl nm)) rfl sc__law_shuffled hr
  exact body_ok (X := cxOf (L2.CX P w) P w K mg base ["_law_source", "_law_things", "_law_left", "_law_found"] "_law_shuffled" (defScope s__law_shuffled) f cdv A outer s H E) (N := ["_law_source", "_law_things", "_law_left", "_law_found"]) (A := [2, 3]) (m := m__law_shuffled) (body := defBody s__law_shuffled) (sss_cons (ss_par c rfl rfl (by decide) rfl rfl (se_lstOf c T.n_list (so_var (pv 1))) (se_lst (so_nil)) rfl)
    (sss_cons (ss_while c (st_ne c (so_var (pv 2)) (so_tmp (se_lst (so_nil)))) (sss_one (ss_expr (se_mut c PySem.F.slot_list_append PySem.F.type_list_append mt_append mu_append (pv 3) (so_cons (so_tmp (se_mut c PySem.F.slot_list_pop PySem.F.type_list_pop mt_popAt mu_popAt (pv 2) (so_cons (so_tmp (se_fn h__law_take rfl (by decide) c.tk hr (so_cons (so_var (pv 0)) (so_cons (so_tmp (se_len c T.n_len (so_var (pv 2)))) (so_nil))))) (so_nil)))) (so_nil))))))
    (sss_one (ss_ret (se_tupOf c T.n_tuple (so_var (pv 3))))))) h (by decide)
theorem ok__law_shuffled {f : Addr} {fd : FuncData} (T : Txt P K (GG.of K cl nm) mg) (Fn : Fun K "_law_shuffled" "_law_shuffled" s__law_shuffled f fd) (hm : mg "_law_shuffled" = some (.ref f)) (h__law_take : FnH P w K mg base (GG.of K cl nm) 1 "_law_take" ["_law_source", "_law_top"] F__law_take) : FnH P w K mg base (GG.of K cl nm) 2 "_law_shuffled" ["_law_source", "_law_things"] F__law_shuffled :=
  ⟨f, fd, core__law_shuffled T Fn h__law_take, hm, Fn.kp, Fn.binds fun _ _ _ _ _ _ us hl => match us, hl with | [_, _], _ => rfl⟩
abbrev s__law_stones : Stmt := top 51
abbrev b__law_stones_1 : MS := mSeq (mDo (mMut 3 [.var 2 pAny] fAppend) kDrop) (mSet 2 (mOp [.tmp (mOp [.var 2 pAny, .tmp (mC (.int 1)) pAny] dAdd) pAny, .tmp (mCall [.var 0 pAny, .var 4 pAny] F__law_take) pAny] dAdd))
def m__law_stones : MS := mSeq (mPar 2 3 (mCall [.var 0 pAny, .tmp (mOp [.tmp (mC (.int 1)) pAny, .tmp (mOp [.tmp (mC (.int 0)) pAny, .var 1 pAny] dSub) pAny, .tmp (mOp [.tmp (mCall [.var 0 pAny, .tmp (mC (.int 2001)) pAny] F__law_take) pAny, .tmp (mC (.int 1000)) pAny] dSub) pAny, .tmp (mOp [.tmp (mC (.int 7)) pAny, .tmp (mOp [.tmp (mC (.int 10)) pAny, .tmp (mC (.int 15)) pAny] dPow) pAny] dSub) pAny] dLst) pAny] F__law_one) (mOp [] dLst)) (mSeq (mSet 4 (mCall [.var 0 pAny, .tmp (mOp [.tmp (mC (.int 1)) pAny, .tmp (mC (.int 1)) pAny, .tmp (mC (.int 2)) pAny, .tmp (mC (.int 9)) pAny, .tmp (mOp [.tmp (mC (.int 10)) pAny, .tmp (mC (.int 12)) pAny] dPow) pAny] dLst) pAny] F__law_one)) (mSeq (mFor (mIO [.var 1 pAny] dR1) (gN 5) b__law_stones_1) (mDo (mCall [.var 0 pAny, .var 3 pAny] F__law_shuffled) kRet)))
def F__law_stones : FV := mDef 6 2 [2, 3, 4, 5, 2] m__law_stones
theorem sc__law_stones : FnScope ["_law_source", "_law_n", "_law_x", "_law_found", "_law_far", "_law_turn"] ["_law_source", "_law_n"] (defScope s__law_stones) := ⟨rfl, rfl, rfl, by decide +kernel, rfl, by decide +kernel, by decide +kernel⟩
theorem core__law_stones {f : Addr} {fd : FuncData} (T : Txt P K (GG.of K cl nm) mg) (Fn : Fun K "_law_stones" "_law_stones" s__law_stones f fd) (h__law_take : FnH P w K mg base (GG.of K cl nm) 1 "_law_take" ["_law_source", "_law_top"] F__law_take) (h__law_one : FnH P w K mg base (GG.of K cl nm) 2 "_law_one" ["_law_source", "_law_things"] F__law_one) (h__law_shuffled : FnH P w K mg base (GG.of K cl nm) 2 "_law_shuffled" ["_law_source", "_law_things"] F__law_shuffled) : FnOk P w K mg base (L2.CX P w) 3 f fd ["_law_source", "_law_n"] (spV (GG.of K cl nm) 2 F__law_stones) := by
  refine Fn.okX sc__law_stones (fun vs H Q E h => h.1) (fun cdv A outer s H vs Q E hr h => ?_)
  have c := ct_bodyX (P := P) (w := w) (mg := mg) (base := base) (qual := "_law_stones") (f := f) (cd := cdv) (outer := outer) (s := s) (H := H) (E := E) (G := (GG.of K cl nm)) rfl sc__law_stones hr
  exact body_ok (X := cxOf (L2.CX P w) P w K mg base ["_law_source", "_law_n", "_law_x", "_law_found", "_law_far", "_law_turn"] "_law_stones" (defScope s__law_stones) f cdv A outer s H E) (N := ["_law_source", "_law_n", "_law_x", "_law_found", "_law_far", "_law_turn"]) (A := [2, 3, 4, 5, 2]) (m := m__law_stones) (body := defBody s__law_stones) (sss_cons (ss_par c rfl rfl (by decide) rfl rfl (se_fn h__law_one rfl (by decide) c.tk hr (so_cons (so_var (pv 0)) (so_cons (so_tmp (se_lst (so_cons (so_tmp (se_int)) (so_cons (so_tmp (se_sub (so_tmp (se_int)) (so_var (pv 1)))) (so_cons (so_tmp (se_sub (so_tmp (se_fn h__law_take rfl (by decide) c.tk hr (so_cons (so_var (pv 0)) (so_cons (so_tmp (se_int)) (so_nil))))) (so_tmp (se_int)))) (so_cons (so_tmp (se_sub (so_tmp (se_int)) (so_tmp (se_pow (so_tmp (se_int)) (so_tmp (se_int)))))) (so_nil))))))) (so_nil)))) (se_lst (so_nil)) rfl)
    (sss_cons (ss_set c rfl (Or.inl rfl) (se_fn h__law_one rfl (by decide) c.tk hr (so_cons (so_var (pv 0)) (so_cons (so_tmp (se_lst (so_cons (so_tmp (se_int)) (so_cons (so_tmp (se_int)) (so_cons (so_tmp (se_int)) (so_cons (so_tmp (se_int)) (so_cons (so_tmp (se_pow (so_tmp (se_int)) (so_tmp (se_int)))) (so_nil)))))))) (so_nil)))))
    (sss_cons (ss_for c (si_range1 (by rfl) T.n_range (so_var (pv 1))) (pg_name c.nd rfl (Or.inl rfl)) gok_name nex_name (sss_cons (ss_expr (se_mut c PySem.F.slot_list_append PySem.F.type_list_append mt_append mu_append (pv 3) (so_cons (so_var (pv 2)) (so_nil))))
    (sss_one (ss_set c rfl (Or.inl rfl) (se_add c (so_tmp (se_add c (so_var (pv 2)) (so_tmp (se_int)))) (so_tmp (se_fn h__law_take rfl (by decide) c.tk hr (so_cons (so_var (pv 0)) (so_cons (so_var (pv 4)) (so_nil))))))))))
    (sss_one (ss_ret (se_fn h__law_shuffled rfl (by decide) c.tk hr (so_cons (so_var (pv 0)) (so_cons (so_var (pv 3)) (so_nil))))))))) h (by decide)
theorem ok__law_stones {f : Addr} {fd : FuncData} (T : Txt P K (GG.of K cl nm) mg) (Fn : Fun K "_law_stones" "_law_stones" s__law_stones f fd) (hm : mg "_law_stones" = some (.ref f)) (h__law_take : FnH P w K mg base (GG.of K cl nm) 1 "_law_take" ["_law_source", "_law_top"] F__law_take) (h__law_one : FnH P w K mg base (GG.of K cl nm) 2 "_law_one" ["_law_source", "_law_things"] F__law_one) (h__law_shuffled : FnH P w K mg base (GG.of K cl nm) 2 "_law_shuffled" ["_law_source", "_law_things"] F__law_shuffled) : FnH P w K mg base (GG.of K cl nm) 3 "_law_stones" ["_law_source", "_law_n"] F__law_stones :=
  ⟨f, fd, core__law_stones T Fn h__law_take h__law_one h__law_shuffled, hm, Fn.kp, Fn.binds fun _ _ _ _ _ _ us hl => match us, hl with | [_, _], _ => rfl⟩
abbrev s__law_span : Stmt := top 46
abbrev t__law_span_1 : MT := mAnd (mB (mOp [.var 2 pAny, .tmp (mC (.int 0)) pAny] dGt)) (mB (mOp [.tmp (mOp [.var 0 pAny, .tmp (mOp [.var 2 pAny, .tmp (mC (.int 1)) pAny] dSub) pAny] dIx) pAny, .var 1 pAny] dLt))
abbrev b__law_span_2 : MS := mSet 2 (mOp [.var 2 pAny, .tmp (mC (.int 1)) pAny] dSub)
abbrev t__law_span_3 : MT := mAnd (mB (mOp [.var 3 pAny, .tmp (mOp [.tmp (mOp [.var 0 pAny] dLen) pAny, .tmp (mC (.int 1)) pAny] dSub) pAny] dLt)) (mB (mOp [.tmp (mOp [.var 0 pAny, .tmp (mOp [.var 3 pAny, .tmp (mC (.int 1)) pAny] dAdd) pAny] dIx) pAny, .var 1 pAny] dLt))
abbrev b__law_span_4 : MS := mSet 3 (mOp [.var 3 pAny, .tmp (mC (.int 1)) pAny] dAdd)
def m__law_span : MS := mSeq (mSet 2 (mOp [.var 0 pTup, .var 1 pAny] dIxT)) (mSeq (mSet 3 (mVar 2)) (mSeq (mWhile t__law_span_1 b__law_span_2) (mSeq (mWhile t__law_span_3 b__law_span_4) (mDo (mOp [.var 2 pAny, .var 3 pAny] dTup) kRet))))
def F__law_span : FV := mDef 4 2 [2, 3, 2, 3] m__law_span
theorem sc__law_span : FnScope ["_law_stones_here", "_law_x", "_law_first", "_law_last"] ["_law_stones_here", "_law_x"] (defScope s__law_span) := ⟨rfl, rfl, rfl, by decide +kernel, rfl, by decide +kernel, by decide +kernel⟩
theorem core__law_span {f : Addr} {fd : FuncData} (T : Txt P K (GG.of K cl nm) mg) (Fn : Fun K "_law_span" "_law_span" s__law_span f fd) : FnOk P w K mg base (L2.CX P w) 1 f fd ["_law_stones_here", "_law_x"] (spV (GG.of K cl nm) 2 F__law_span) := by
  refine Fn.okX sc__law_span (fun vs H Q E h => h.1) (fun cdv A outer s H vs Q E hr h => ?_)
  have c := ct_bodyX (P := P) (w := w) (mg := mg) (base := base) (qual := "_law_span") (f := f) (cd := cdv) (outer := outer) (s := s) (H := H) (E := E) (G := (GG.of K cl nm)) rfl sc__law_span hr
  exact body_ok (X := cxOf (L2.CX P w) P w K mg base ["_law_stones_here", "_law_x", "_law_first", "_law_last"] "_law_span" (defScope s__law_span) f cdv A outer s H E) (N := ["_law_stones_here", "_law_x", "_law_first", "_law_last"]) (A := [2, 3, 2, 3]) (m := m__law_span) (body := defBody s__law_span) (sss_cons (ss_set c rfl (Or.inl rfl) (se_ixT c rfl (so_varC pTup (pv 0)) (so_var (pv 1))))
    (sss_cons (ss_set c rfl (Or.inl rfl) (se_var (pv 2)))
    (sss_cons (ss_while c (st_bool (sw_and (st_gt (so_var (pv 2)) (so_tmp (se_int))) (sw_and1 (st_lt (so_tmp (se_ix c (so_var (pv 0)) (so_tmp (se_sub (so_var (pv 2)) (so_tmp (se_int)))))) (so_var (pv 1)))))) (sss_one (ss_set c rfl (Or.inl rfl) (se_sub (so_var (pv 2)) (so_tmp (se_int))))))
    (sss_cons (ss_while c (st_bool (sw_and (st_lt (so_var (pv 3)) (so_tmp (se_sub (so_tmp (se_len c T.n_len (so_var (pv 0)))) (so_tmp (se_int))))) (sw_and1 (st_lt (so_tmp (se_ix c (so_var (pv 0)) (so_tmp (se_add c (so_var (pv 3)) (so_tmp (se_int)))))) (so_var (pv 1)))))) (sss_one (ss_set c rfl (Or.inl rfl) (se_add c (so_var (pv 3)) (so_tmp (se_int))))))
    (sss_one (ss_ret (se_tup (so_cons (so_var (pv 2)) (so_cons (so_var (pv 3)) (so_nil)))))))))) h (by decide)
theorem ok__law_span {f : Addr} {fd : FuncData} (T : Txt P K (GG.of K cl nm) mg) (Fn : Fun K "_law_span" "_law_span" s__law_span f fd) (hm : mg "_law_span" = some (.ref f)) : FnH P w K mg base (GG.of K cl nm) 1 "_law_span" ["_law_stones_here", "_law_x"] F__law_span :=
  ⟨f, fd, core__law_span T Fn, hm, Fn.kp, Fn.binds fun _ _ _ _ _ _ us hl => match us, hl with | [_, _], _ => rfl⟩
abbrev s__law_length : Stmt := top 48
def m__law_length : MS := mSeq (mDo (mCall [.var 0 pAny, .var 1 pAny] F__law_span) (kUnp [2, 3])) (mDo (mOp [.tmp (mOp [.var 3 pAny, .var 2 pAny] dSub) pAny, .tmp (mC (.int 1)) pAny] dAdd) kRet)
def F__law_length : FV := mDef 4 2 [2, 3] m__law_length
theorem sc__law_length : FnScope ["_law_stones_here", "_law_x", "_law_first", "_law_last"] ["_law_stones_here", "_law_x"] (defScope s__law_length) := ⟨rfl, rfl, rfl, by decide +kernel, rfl, by decide +kernel, by decide +kernel⟩
theorem core__law_length {f : Addr} {fd : FuncData} (T : Txt P K (GG.of K cl nm) mg) (Fn : Fun K "_law_length" "_law_length" s__law_length f fd) (h__law_span : FnH P w K mg base (GG.of K cl nm) 1 "_law_span" ["_law_stones_here", "_law_x"] F__law_span) : FnOk P w K mg base (L2.CX P w) 2 f fd ["_law_stones_here", "_law_x"] (spV (GG.of K cl nm) 2 F__law_length) := by
  refine Fn.okX sc__law_length (fun vs H Q E h => h.1) (fun cdv A outer s H vs Q E hr h => ?_)
  have c := ct_bodyX (P := P) (w := w) (mg := mg) (base := base) (qual := "_law_length") (f := f) (cd := cdv) (outer := outer) (s := s) (H := H) (E := E) (G := (GG.of K cl nm)) rfl sc__law_length hr
  exact body_ok (X := cxOf (L2.CX P w) P w K mg base ["_law_stones_here", "_law_x", "_law_first", "_law_last"] "_law_length" (defScope s__law_length) f cdv A outer s H E) (N := ["_law_stones_here", "_law_x", "_law_first", "_law_last"]) (A := [2, 3]) (m := m__law_length) (body := defBody s__law_length) (sss_cons (ss_unp c (se_fn h__law_span rfl (by decide) c.tk hr (so_cons (so_var (pv 0)) (so_cons (so_var (pv 1)) (so_nil)))) (pgs_cons (pg_name c.nd rfl (Or.inl rfl)) (pgs_cons (pg_name c.nd rfl (Or.inl rfl)) (pgs_nil))))
    (sss_one (ss_ret (se_add c (so_tmp (se_sub (so_var (pv 3)) (so_var (pv 2)))) (so_tmp (se_int)))))) h (by decide)
theorem ok__law_length {f : Addr} {fd : FuncData} (T : Txt P K (GG.of K cl nm) mg) (Fn : Fun K "_law_length" "_law_length" s__law_length f fd) (hm : mg "_law_length" = some (.ref f)) (h__law_span : FnH P w K mg base (GG.of K cl nm) 1 "_law_span" ["_law_stones_here", "_law_x"] F__law_span) : FnH P w K mg base (GG.of K cl nm) 2 "_law_length" ["_law_stones_here", "_law_x"] F__law_length :=
  ⟨f, fd, core__law_length T Fn h__law_span, hm, Fn.kp, Fn.binds fun _ _ _ _ _ _ us hl => match us, hl with | [_, _], _ => rfl⟩
abbrev s__law_closers : Stmt := top 47
def m__law_closers : MS := mSeq (mDo (mCall [.var 0 pAny, .var 2 pAny] F__law_span) (kUnp [3, 4])) (mSeq (mSet 5 (mIf (mB (mOp [.var 3 pAny, .tmp (mC (.int 0)) pAny] dGt)) (mOp [.var 0 pAny, .tmp (mOp [.var 3 pAny, .tmp (mC (.int 1)) pAny] dSub) pAny] dIx) (mOp [.tmp (mOp [.tmp (mC (.str "open")) pAny, .tmp (mC (.str "wall")) pAny, .tmp (mC (.str "open")) pAny, .tmp (mC (.str "wall")) pAny] dLst) pAny, .var 1 pAny] dIx))) (mDo (mOp [.var 5 pAny, .tmp (mIf (mB (mOp [.var 4 pAny, .tmp (mOp [.tmp (mOp [.var 0 pAny] dLen) pAny, .tmp (mC (.int 1)) pAny] dSub) pAny] dLt)) (mOp [.var 0 pAny, .tmp (mOp [.var 4 pAny, .tmp (mC (.int 1)) pAny] dAdd) pAny] dIx) (mOp [.tmp (mOp [.tmp (mC (.str "open")) pAny, .tmp (mC (.str "open")) pAny, .tmp (mC (.str "wall")) pAny, .tmp (mC (.str "wall")) pAny] dLst) pAny, .var 1 pAny] dIx)) pAny] dTup) kRet))
def F__law_closers : FV := mDef 6 3 [3, 4, 5] m__law_closers
theorem sc__law_closers : FnScope ["_law_stones_here", "_law_ends", "_law_x", "_law_first", "_law_last", "_law_ahead"] ["_law_stones_here", "_law_ends", "_law_x"] (defScope s__law_closers) := ⟨rfl, rfl, rfl, by decide +kernel, rfl, by decide +kernel, by decide +kernel⟩
theorem core__law_closers {f : Addr} {fd : FuncData} (T : Txt P K (GG.of K cl nm) mg) (Fn : Fun K "_law_closers" "_law_closers" s__law_closers f fd) (h__law_span : FnH P w K mg base (GG.of K cl nm) 1 "_law_span" ["_law_stones_here", "_law_x"] F__law_span) : FnOk P w K mg base (L2.CX P w) 2 f fd ["_law_stones_here", "_law_ends", "_law_x"] (spV (GG.of K cl nm) 3 F__law_closers) := by
  refine Fn.okX sc__law_closers (fun vs H Q E h => h.1) (fun cdv A outer s H vs Q E hr h => ?_)
  have c := ct_bodyX (P := P) (w := w) (mg := mg) (base := base) (qual := "_law_closers") (f := f) (cd := cdv) (outer := outer) (s := s) (H := H) (E := E) (G := (GG.of K cl nm)) rfl sc__law_closers hr
  exact body_ok (X := cxOf (L2.CX P w) P w K mg base ["_law_stones_here", "_law_ends", "_law_x", "_law_first", "_law_last", "_law_ahead"] "_law_closers" (defScope s__law_closers) f cdv A outer s H E) (N := ["_law_stones_here", "_law_ends", "_law_x", "_law_first", "_law_last", "_law_ahead"]) (A := [3, 4, 5]) (m := m__law_closers) (body := defBody s__law_closers) (sss_cons (ss_unp c (se_fn h__law_span rfl (by decide) c.tk hr (so_cons (so_var (pv 0)) (so_cons (so_var (pv 2)) (so_nil)))) (pgs_cons (pg_name c.nd rfl (Or.inl rfl)) (pgs_cons (pg_name c.nd rfl (Or.inl rfl)) (pgs_nil))))
    (sss_cons (ss_set c rfl (Or.inl rfl) (se_ifExp (st_gt (so_var (pv 3)) (so_tmp (se_int))) (se_ix c (so_var (pv 0)) (so_tmp (se_sub (so_var (pv 3)) (so_tmp (se_int))))) (se_ix c (so_tmp (se_lst (so_cons (so_tmp (se_str)) (so_cons (so_tmp (se_str)) (so_cons (so_tmp (se_str)) (so_cons (so_tmp (se_str)) (so_nil))))))) (so_var (pv 1)))))
    (sss_one (ss_ret (se_tup (so_cons (so_var (pv 5)) (so_cons (so_tmp (se_ifExp (st_lt (so_var (pv 4)) (so_tmp (se_sub (so_tmp (se_len c T.n_len (so_var (pv 0)))) (so_tmp (se_int))))) (se_ix c (so_var (pv 0)) (so_tmp (se_add c (so_var (pv 4)) (so_tmp (se_int))))) (se_ix c (so_tmp (se_lst (so_cons (so_tmp (se_str)) (so_cons (so_tmp (se_str)) (so_cons (so_tmp (se_str)) (so_cons (so_tmp (se_str)) (so_nil))))))) (so_var (pv 1))))) (so_nil)))))))) h (by decide)
theorem ok__law_closers {f : Addr} {fd : FuncData} (T : Txt P K (GG.of K cl nm) mg) (Fn : Fun K "_law_closers" "_law_closers" s__law_closers f fd) (hm : mg "_law_closers" = some (.ref f)) (h__law_span : FnH P w K mg base (GG.of K cl nm) 1 "_law_span" ["_law_stones_here", "_law_x"] F__law_span) : FnH P w K mg base (GG.of K cl nm) 2 "_law_closers" ["_law_stones_here", "_law_ends", "_law_x"] F__law_closers :=
  ⟨f, fd, core__law_closers T Fn h__law_span, hm, Fn.kp, Fn.binds fun _ _ _ _ _ _ us hl => match us, hl with | [_, _, _], _ => rfl⟩
abbrev s__law_heads : Stmt := top 49
abbrev t__law_heads_1 : MT := mB (mOp [.tmp (mCall [.var 0 pAny, .var 3 pAny] F__law_length) pAny, .tmp (mC (.int 1)) pAny] dGt)
abbrev u__law_heads_2 : ME := mVar 3
abbrev t__law_heads_3 : MT := mB (mOp [.tmp (mC (.str "open")) pAny, .tmp (mCall [.var 0 pAny, .var 1 pAny, .var 3 pAny] F__law_closers) pAny] (dInA true))
abbrev u__law_heads_4 : ME := mVar 3
def m__law_heads : MS := mSeq (mDo (mLc [3] (mI1 (mOp [.var 0 pAny] dSort) D.seq) (gN 3) (t__law_heads_1) (u__law_heads_2)) (kSet 2)) (mDo (mLc [3] (mI1 (mVar 2) D.seq) (gN 3) (t__law_heads_3) (u__law_heads_4)) kRet)
def F__law_heads : FV := mDef 4 2 [2] m__law_heads
theorem sc__law_heads : FnScope ["_law_stones_here", "_law_ends", "_law_some", "_law_x"] ["_law_stones_here", "_law_ends"] (defScope s__law_heads) := ⟨rfl, rfl, rfl, by decide +kernel, rfl, by decide +kernel, by decide +kernel⟩
theorem core__law_heads {f : Addr} {fd : FuncData} (T : Txt P K (GG.of K cl nm) mg) (Fn : Fun K "_law_heads" "_law_heads" s__law_heads f fd) (h__law_length : FnH P w K mg base (GG.of K cl nm) 2 "_law_length" ["_law_stones_here", "_law_x"] F__law_length) (h__law_closers : FnH P w K mg base (GG.of K cl nm) 2 "_law_closers" ["_law_stones_here", "_law_ends", "_law_x"] F__law_closers) : FnOk P w K mg base (L2.CX P w) 3 f fd ["_law_stones_here", "_law_ends"] (spV (GG.of K cl nm) 2 F__law_heads) := by
  refine Fn.okX sc__law_heads (fun vs H Q E h => h.1) (fun cdv A outer s H vs Q E hr h => ?_)
  have c := ct_bodyX (P := P) (w := w) (mg := mg) (base := base) (qual := "_law_heads") (f := f) (cd := cdv) (outer := outer) (s := s) (H := H) (E := E) (G := (GG.of K cl nm)) rfl sc__law_heads hr
  exact body_ok (X := cxOf (L2.CX P w) P w K mg base ["_law_stones_here", "_law_ends", "_law_some", "_law_x"] "_law_heads" (defScope s__law_heads) f cdv A outer s H E) (N := ["_law_stones_here", "_law_ends", "_law_some", "_law_x"]) (A := [2]) (m := m__law_heads) (body := defBody s__law_heads) (sss_cons (ss_setLc (own := [("_law_x", 3)]) c rfl rfl rfl (si_seq c (se_sort c T.n_sorted (so_var (pv 0)))) (show BlkOk ["_law_stones_here", "_law_ends", "_law_some", "_law_x"] (defScope s__law_heads) _ _ from ⟨rfl, by decide +kernel, by decide +kernel, by decide +kernel, by decide +kernel⟩) gok_name lenk_name (by decide) (fun _ _ _ _ _ => pg_name c.blk.nd rfl (Or.inl rfl)) (fun _ _ _ _ _ => sts_one (st_gt (so_tmp (se_fn h__law_length rfl (by decide) c.blk.tk hr (so_cons (so_var (pv 0)) (so_cons (so_var (pv 3)) (so_nil))))) (so_tmp (se_int)))) (fun _ _ _ _ _ => se_var (pv 3)))
    (sss_one (ss_ret (se_lc (own := [("_law_x", 3)]) c (si_seq c (se_var (pv 2))) (show BlkOk ["_law_stones_here", "_law_ends", "_law_some", "_law_x"] (defScope s__law_heads) _ _ from ⟨rfl, by decide +kernel, by decide +kernel, by decide +kernel, by decide +kernel⟩) gok_name lenk_name (by decide) (fun _ _ _ _ _ => pg_name c.blk.nd rfl (Or.inl rfl)) (fun _ _ _ _ _ => sts_one (st_notInA c.blk (so_tmp (se_str)) (so_tmp (se_fn h__law_closers rfl (by decide) c.blk.tk hr (so_cons (so_var (pv 0)) (so_cons (so_var (pv 1)) (so_cons (so_var (pv 3)) (so_nil)))))))) (fun _ _ _ _ _ => se_var (pv 3)))))) h (by decide)
theorem ok__law_heads {f : Addr} {fd : FuncData} (T : Txt P K (GG.of K cl nm) mg) (Fn : Fun K "_law_heads" "_law_heads" s__law_heads f fd) (hm : mg "_law_heads" = some (.ref f)) (h__law_length : FnH P w K mg base (GG.of K cl nm) 2 "_law_length" ["_law_stones_here", "_law_x"] F__law_length) (h__law_closers : FnH P w K mg base (GG.of K cl nm) 2 "_law_closers" ["_law_stones_here", "_law_ends", "_law_x"] F__law_closers) : FnH P w K mg base (GG.of K cl nm) 3 "_law_heads" ["_law_stones_here", "_law_ends"] F__law_heads :=
  ⟨f, fd, core__law_heads T Fn h__law_length h__law_closers, hm, Fn.kp, Fn.binds fun _ _ _ _ _ _ us hl => match us, hl with | [_, _], _ => rfl⟩
abbrev s__law_rule : Stmt := top 52
abbrev u__law_rule_1 : ME := mCall [.var 1 pAny, .var 5 pAny] F__law_length
abbrev t__law_rule_2 : MT := mB (mOp [.tmp (mCall [.var 0 pAny, .tmp (mC (.int 3)) pAny] F__law_take) pAny, .tmp (mC (.int 0)) pAny] dGt)
abbrev u__law_rule_3 : ME := mOp [.var 6 pAny, .tmp (mC (.bl true)) pAny] dTup
def m__law_rule : MS := mSeq (mDo (mLc [5] (mI1 (mCall [.var 1 pAny, .var 2 pAny] F__law_heads) D.seq) (gN 5) (mYes) (u__law_rule_1)) (kSet 3)) (mSeq (mSet 4 (mOp [.tmp (mLc [6] (mI1 (mVar 3) D.seq) (gN 6) (t__law_rule_2) (u__law_rule_3)) pAny] dDicOf)) (mSeq (mIfS (mB (mOp [.tmp (mCall [.var 0 pAny, .tmp (mC (.int 4)) pAny] F__law_take) pAny, .tmp (mC (.int 0)) pAny] dEq)) (mSto 4 (mC (.bl true)) (.tmp (mOp [.tmp (mC (.int 2)) pAny, .tmp (mCall [.var 0 pAny, .tmp (mC (.int 39)) pAny] F__law_take) pAny] dAdd) pAny) fSetD) (mNext)) (mDo (mCall [.var 0 pAny, .tmp (mOp [.tmp (mC .non) pAny, .tmp (mOp [.tmp (mOp [.var 4 pAny] dSort) pAny] dTupOf) pAny] dLst) pAny] F__law_one) kRet)))
def F__law_rule : FV := mDef 7 3 [3, 4] m__law_rule
theorem sc__law_rule : FnScope ["_law_source", "_law_stones_here", "_law_ends", "_law_lengths", "_law_some", "_law_x", "_law_length_here"] ["_law_source", "_law_stones_here", "_law_ends"] (defScope s__law_rule) := ⟨rfl, rfl, rfl, by decide +kernel, rfl, by decide +kernel, by decide +kernel⟩
theorem core__law_rule {f : Addr} {fd : FuncData} (T : Txt P K (GG.of K cl nm) mg) (Fn : Fun K "_law_rule" "_law_rule" s__law_rule f fd) (h__law_heads : FnH P w K mg base (GG.of K cl nm) 3 "_law_heads" ["_law_stones_here", "_law_ends"] F__law_heads) (h__law_length : FnH P w K mg base (GG.of K cl nm) 2 "_law_length" ["_law_stones_here", "_law_x"] F__law_length) (h__law_take : FnH P w K mg base (GG.of K cl nm) 1 "_law_take" ["_law_source", "_law_top"] F__law_take) (h__law_one : FnH P w K mg base (GG.of K cl nm) 2 "_law_one" ["_law_source", "_law_things"] F__law_one) : FnOk P w K mg base (L2.CX P w) 4 f fd ["_law_source", "_law_stones_here", "_law_ends"] (spV (GG.of K cl nm) 3 F__law_rule) := by
  refine Fn.okX sc__law_rule (fun vs H Q E h => h.1) (fun cdv A outer s H vs Q E hr h => ?_)
  have c := ct_bodyX (P := P) (w := w) (mg := mg) (base := base) (qual := "_law_rule") (f := f) (cd := cdv) (outer := outer) (s := s) (H := H) (E := E) (G := (GG.of K cl nm)) rfl sc__law_rule hr
  exact body_ok (X := cxOf (L2.CX P w) P w K mg base ["_law_source", "_law_stones_here", "_law_ends", "_law_lengths", "_law_some", "_law_x", "_law_length_here"] "_law_rule" (defScope s__law_rule) f cdv A outer s H E) (N := ["_law_source", "_law_stones_here", "_law_ends", "_law_lengths", "_law_some", "_law_x", "_law_length_here"]) (A := [3, 4]) (m := m__law_rule) (body := defBody s__law_rule) (sss_cons (ss_setLc (own := [("_law_x", 5)]) c rfl rfl rfl (si_seq c (se_fn h__law_heads rfl (by decide) c.tk hr (so_cons (so_var (pv 1)) (so_cons (so_var (pv 2)) (so_nil))))) (show BlkOk ["_law_source", "_law_stones_here", "_law_ends", "_law_lengths", "_law_some", "_law_x", "_law_length_here"] (defScope s__law_rule) _ _ from ⟨rfl, by decide +kernel, by decide +kernel, by decide +kernel, by decide +kernel⟩) gok_name lenk_name (by decide) (fun _ _ _ _ _ => pg_name c.blk.nd rfl (Or.inl rfl)) (fun _ _ _ _ _ => sts_nil) (fun _ _ _ _ _ => se_fn h__law_length rfl (by decide) c.blk.tk hr (so_cons (so_var (pv 1)) (so_cons (so_var (pv 5)) (so_nil)))))
    (sss_cons (ss_set c rfl (Or.inl rfl) (se_dicOf c T.n_dict (so_tmp (se_lc (own := [("_law_length_here", 6)]) c (si_seq c (se_var (pv 3))) (show BlkOk ["_law_source", "_law_stones_here", "_law_ends", "_law_lengths", "_law_some", "_law_x", "_law_length_here"] (defScope s__law_rule) _ _ from ⟨rfl, by decide +kernel, by decide +kernel, by decide +kernel, by decide +kernel⟩) gok_name lenk_name (by decide) (fun _ _ _ _ _ => pg_name c.blk.nd rfl (Or.inl rfl)) (fun _ _ _ _ _ => sts_one (st_gt (so_tmp (se_fn h__law_take rfl (by decide) c.blk.tk hr (so_cons (so_var (pv 0)) (so_cons (so_tmp (se_int)) (so_nil))))) (so_tmp (se_int)))) (fun _ _ _ _ _ => se_tup (so_cons (so_var (pv 6)) (so_cons (so_tmp (se_bl)) (so_nil))))))))
    (sss_cons (ss_if (st_eq c (so_tmp (se_fn h__law_take rfl (by decide) c.tk hr (so_cons (so_var (pv 0)) (so_cons (so_tmp (se_int)) (so_nil))))) (so_tmp (se_int))) (sss_one (ss_dput c (pv 4) (so_tmp (se_add c (so_tmp (se_int)) (so_tmp (se_fn h__law_take rfl (by decide) c.tk hr (so_cons (so_var (pv 0)) (so_cons (so_tmp (se_int)) (so_nil))))))) (se_bl))) (sss_nil))
    (sss_one (ss_ret (se_fn h__law_one rfl (by decide) c.tk hr (so_cons (so_var (pv 0)) (so_cons (so_tmp (se_lst (so_cons (so_tmp (se_non)) (so_cons (so_tmp (se_tupOf c T.n_tuple (so_tmp (se_sort c T.n_sorted (so_var (pv 4)))))) (so_nil))))) (so_nil))))))))) h (by decide)
theorem ok__law_rule {f : Addr} {fd : FuncData} (T : Txt P K (GG.of K cl nm) mg) (Fn : Fun K "_law_rule" "_law_rule" s__law_rule f fd) (hm : mg "_law_rule" = some (.ref f)) (h__law_heads : FnH P w K mg base (GG.of K cl nm) 3 "_law_heads" ["_law_stones_here", "_law_ends"] F__law_heads) (h__law_length : FnH P w K mg base (GG.of K cl nm) 2 "_law_length" ["_law_stones_here", "_law_x"] F__law_length) (h__law_take : FnH P w K mg base (GG.of K cl nm) 1 "_law_take" ["_law_source", "_law_top"] F__law_take) (h__law_one : FnH P w K mg base (GG.of K cl nm) 2 "_law_one" ["_law_source", "_law_things"] F__law_one) : FnH P w K mg base (GG.of K cl nm) 4 "_law_rule" ["_law_source", "_law_stones_here", "_law_ends"] F__law_rule :=
  ⟨f, fd, core__law_rule T Fn h__law_heads h__law_length h__law_take h__law_one, hm, Fn.kp, Fn.binds fun _ _ _ _ _ _ us hl => match us, hl with | [_, _, _], _ => rfl⟩
abbrev s__law_row : Stmt := top 53
def m__law_row : MS := mSeq (mSet 3 (mCall [.var 0 pAny, .tmp (mOp [.var 1 pAny, .tmp (mCall [.var 0 pAny, .tmp (mOp [.tmp (mOp [.var 2 pAny, .var 1 pAny] dSub) pAny, .tmp (mC (.int 1)) pAny] dAdd) pAny] F__law_take) pAny] dAdd) pAny] F__law_stones)) (mSeq (mSet 4 (mCall [.var 0 pAny, .tmp (mOp [.tmp (mC (.int 3)) pAny, .tmp (mC (.int 3)) pAny, .tmp (mC (.int 3)) pAny, .tmp (mC (.int 3)) pAny, .tmp (mC (.int 1)) pAny, .tmp (mC (.int 2)) pAny, .tmp (mC (.int 1)) pAny, .tmp (mC (.int 0)) pAny] dLst) pAny] F__law_one)) (mDo (mOp [.var 3 pAny, .var 4 pAny, .tmp (mCall [.var 0 pAny, .var 3 pAny, .var 4 pAny] F__law_rule) pAny] dTup) kRet))
def F__law_row : FV := mDef 5 3 [3, 4] m__law_row
theorem sc__law_row : FnScope ["_law_source", "_law_least", "_law_most", "_law_stones_here", "_law_ends"] ["_law_source", "_law_least", "_law_most"] (defScope s__law_row) := ⟨rfl, rfl, rfl, by decide +kernel, rfl, by decide +kernel, by decide +kernel⟩
theorem core__law_row {f : Addr} {fd : FuncData} (T : Txt P K (GG.of K cl nm) mg) (Fn : Fun K "_law_row" "_law_row" s__law_row f fd) (h__law_take : FnH P w K mg base (GG.of K cl nm) 1 "_law_take" ["_law_source", "_law_top"] F__law_take) (h__law_stones : FnH P w K mg base (GG.of K cl nm) 3 "_law_stones" ["_law_source", "_law_n"] F__law_stones) (h__law_one : FnH P w K mg base (GG.of K cl nm) 2 "_law_one" ["_law_source", "_law_things"] F__law_one) (h__law_rule : FnH P w K mg base (GG.of K cl nm) 4 "_law_rule" ["_law_source", "_law_stones_here", "_law_ends"] F__law_rule) : FnOk P w K mg base (L2.CX P w) 5 f fd ["_law_source", "_law_least", "_law_most"] (spV (GG.of K cl nm) 3 F__law_row) := by
  refine Fn.okX sc__law_row (fun vs H Q E h => h.1) (fun cdv A outer s H vs Q E hr h => ?_)
  have c := ct_bodyX (P := P) (w := w) (mg := mg) (base := base) (qual := "_law_row") (f := f) (cd := cdv) (outer := outer) (s := s) (H := H) (E := E) (G := (GG.of K cl nm)) rfl sc__law_row hr
  exact body_ok (X := cxOf (L2.CX P w) P w K mg base ["_law_source", "_law_least", "_law_most", "_law_stones_here", "_law_ends"] "_law_row" (defScope s__law_row) f cdv A outer s H E) (N := ["_law_source", "_law_least", "_law_most", "_law_stones_here", "_law_ends"]) (A := [3, 4]) (m := m__law_row) (body := defBody s__law_row) (sss_cons (ss_set c rfl (Or.inl rfl) (se_fn h__law_stones rfl (by decide) c.tk hr (so_cons (so_var (pv 0)) (so_cons (so_tmp (se_add c (so_var (pv 1)) (so_tmp (se_fn h__law_take rfl (by decide) c.tk hr (so_cons (so_var (pv 0)) (so_cons (so_tmp (se_add c (so_tmp (se_sub (so_var (pv 2)) (so_var (pv 1)))) (so_tmp (se_int)))) (so_nil))))))) (so_nil)))))
    (sss_cons (ss_set c rfl (Or.inl rfl) (se_fn h__law_one rfl (by decide) c.tk hr (so_cons (so_var (pv 0)) (so_cons (so_tmp (se_lst (so_cons (so_tmp (se_int)) (so_cons (so_tmp (se_int)) (so_cons (so_tmp (se_int)) (so_cons (so_tmp (se_int)) (so_cons (so_tmp (se_int)) (so_cons (so_tmp (se_int)) (so_cons (so_tmp (se_int)) (so_cons (so_tmp (se_int)) (so_nil))))))))))) (so_nil)))))
    (sss_one (ss_ret (se_tup (so_cons (so_var (pv 3)) (so_cons (so_var (pv 4)) (so_cons (so_tmp (se_fn h__law_rule rfl (by decide) c.tk hr (so_cons (so_var (pv 0)) (so_cons (so_var (pv 3)) (so_cons (so_var (pv 4)) (so_nil)))))) (so_nil))))))))) h (by decide)
theorem ok__law_row {f : Addr} {fd : FuncData} (T : Txt P K (GG.of K cl nm) mg) (Fn : Fun K "_law_row" "_law_row" s__law_row f fd) (hm : mg "_law_row" = some (.ref f)) (h__law_take : FnH P w K mg base (GG.of K cl nm) 1 "_law_take" ["_law_source", "_law_top"] F__law_take) (h__law_stones : FnH P w K mg base (GG.of K cl nm) 3 "_law_stones" ["_law_source", "_law_n"] F__law_stones) (h__law_one : FnH P w K mg base (GG.of K cl nm) 2 "_law_one" ["_law_source", "_law_things"] F__law_one) (h__law_rule : FnH P w K mg base (GG.of K cl nm) 4 "_law_rule" ["_law_source", "_law_stones_here", "_law_ends"] F__law_rule) : FnH P w K mg base (GG.of K cl nm) 5 "_law_row" ["_law_source", "_law_least", "_law_most"] F__law_row :=
  ⟨f, fd, core__law_row T Fn h__law_take h__law_stones h__law_one h__law_rule, hm, Fn.kp, Fn.binds fun _ _ _ _ _ _ us hl => match us, hl with | [_, _, _], _ => rfl⟩
abbrev s_is_stone : Stmt := top 14
def m_is_stone : MS := mDo (mOp [.tmp (mOp [.var 0 pAny] dAbs) pAny, .tmp (mC (.int (1000000000000000))) pAny] dLt) kRet
def F_is_stone : FV := mDef 1 1 [] m_is_stone
theorem sc_is_stone : FnScope ["x"] ["x"] (defScope s_is_stone) := ⟨rfl, rfl, rfl, by decide +kernel, rfl, by decide +kernel, by decide +kernel⟩
theorem core_is_stone {f : Addr} {fd : FuncData} (T : Txt P K (GG.of K cl nm) mg) (Fn : Fun K "is_stone" "is_stone" s_is_stone f fd) : FnOk P w K mg base (L2.CX P w) 1 f fd ["x"] (spV (GG.of K cl nm) 1 F_is_stone) := by
  refine Fn.okX sc_is_stone (fun vs H Q E h => h.1) (fun cdv A outer s H vs Q E hr h => ?_)
  have c := ct_bodyX (P := P) (w := w) (mg := mg) (base := base) (qual := "is_stone") (f := f) (cd := cdv) (outer := outer) (s := s) (H := H) (E := E) (G := (GG.of K cl nm)) rfl sc_is_stone hr
  exact body_ok (X := cxOf (L2.CX P w) P w K mg base ["x"] "is_stone" (defScope s_is_stone) f cdv A outer s H E) (N := ["x"]) (A := []) (m := m_is_stone) (body := defBody s_is_stone) (sss_one (ss_ret (se_lt (so_tmp (se_abs T.n_abs (so_var (pv 0)))) (so_tmp (se_gi (by rfl) T.c_STONE_LIMIT))))) h (by decide)
theorem ok_is_stone {f : Addr} {fd : FuncData} (T : Txt P K (GG.of K cl nm) mg) (Fn : Fun K "is_stone" "is_stone" s_is_stone f fd) (hm : mg "is_stone" = some (.ref f)) : FnH P w K mg base (GG.of K cl nm) 1 "is_stone" ["x"] F_is_stone :=
  ⟨f, fd, core_is_stone T Fn, hm, Fn.kp, Fn.binds fun _ _ _ _ _ _ us hl => match us, hl with | [_], _ => rfl⟩
abbrev s_want_stones : Stmt := top 15
abbrev b_want_stones_1 : MS := mSeq (mIfS (mOr (mNot (mB (mOp [.tmp (mCall [.var 4 pAny] F_is_stone) pAny] dTru))) (mB (mOp [.var 4 pAny, .var 2 pAny] (dInA false)))) (mNever) (mNext)) (mSto 2 (mC (.bl true)) (.var 4 pAny) fSetD)
def m_want_stones : MS := mSeq (mIfS (mNot (mB (mChain (fun i j => decide (i ≤ j)) (fun i j => decide (i ≤ j)) (.var 1 pAny) (.tmp (mOp [.var 0 pAny] dLen) pAny) (.tmp (mC (.int (40))) pAny)))) (mRaise 2 (mOp [.var 0 pAny] dLen)) (mNext)) (mSeq (mSet 2 (mDicNew)) (mFor (mI1 (mVar 0) dEnum) (gT [3, 4]) b_want_stones_1))
def F_want_stones : FV := mDef 5 2 [2, 3, 4] m_want_stones
theorem sc_want_stones : FnScope ["stones", "least", "met", "at", "x"] ["stones", "least"] (defScope s_want_stones) := ⟨rfl, rfl, rfl, by decide +kernel, rfl, by decide +kernel, by decide +kernel⟩
theorem core_want_stones {f : Addr} {fd : FuncData} (T : Txt P K (GG.of K cl nm) mg) (Fn : FnD K "want_stones" "want_stones" s_want_stones [V.int 1] [] f fd) (h_is_stone : FnH P w K mg base (GG.of K cl nm) 1 "is_stone" ["x"] F_is_stone) : FnOk P w K mg base (L2.CX P w) 2 f fd ["stones", "least"] (spV (GG.of K cl nm) 2 F_want_stones) := by
  refine FunD.ok Fn sc_want_stones (fun vs H Q E h => h.1) (fun cdv A outer s H vs Q E hr h => ?_)
  have c := ct_bodyX (P := P) (w := w) (mg := mg) (base := base) (qual := "want_stones") (f := f) (cd := cdv) (outer := outer) (s := s) (H := H) (E := E) (G := (GG.of K cl nm)) rfl sc_want_stones hr
  exact body_ok (X := cxOf (L2.CX P w) P w K mg base ["stones", "least", "met", "at", "x"] "want_stones" (defScope s_want_stones) f cdv A outer s H E) (N := ["stones", "least", "met", "at", "x"]) (A := [2, 3, 4]) (m := m_want_stones) (body := defBody s_want_stones) (sss_cons (ss_if (st_not (st_chain op_le op_le (so_var (pv 1)) (so_tmp (se_len c T.n_len (so_var (pv 0)))) (so_tmp (se_gi (by rfl) T.c_MOST_STONES)))) (sss_one (ss_raise c T.x_BadSize hr (se_len c T.n_len (so_var (pv 0))))) (sss_nil))
    (sss_cons (ss_set c rfl (Or.inl rfl) (se_dnew))
    (sss_one (ss_for c (si_enum c (by rfl) T.n_enumerate (se_var (pv 0))) (by exact pg_tup (c.calm rfl) (pgs_cons (pg_name c.nd rfl (Or.inl rfl)) (pgs_cons (pg_name c.nd rfl (Or.inl rfl)) (pgs_nil)))) gok_tup nex_tup (sss_cons (ss_if (st_bool (sw_or (st_not (st_truth c (so_tmp (se_fn h_is_stone rfl (by decide) c.tk hr (so_cons (so_var (pv 4)) (so_nil)))))) (sw_or1 (st_inA c (so_var (pv 4)) (so_var (pv 2)))))) (sss_one (ss_never)) (sss_nil))
    (sss_one (ss_dput c (pv 2) (so_var (pv 4)) (se_bl)))))))) h (by decide)
abbrev s_want_ends : Stmt := top 16
def m_want_ends : MS := mIfS (mNot (mB (mChain (fun i j => decide (i ≤ j)) (fun i j => decide (i ≤ j)) (.tmp (mC (.int 0)) pAny) (.var 0 pAny) (.tmp (mC (.int (3))) pAny)))) (mNever) (mNext)
def F_want_ends : FV := mDef 1 1 [] m_want_ends
theorem sc_want_ends : FnScope ["ends"] ["ends"] (defScope s_want_ends) := ⟨rfl, rfl, rfl, by decide +kernel, rfl, by decide +kernel, by decide +kernel⟩
theorem core_want_ends {f : Addr} {fd : FuncData} (T : Txt P K (GG.of K cl nm) mg) (Fn : Fun K "want_ends" "want_ends" s_want_ends f fd) : FnOk P w K mg base (L2.CX P w) 1 f fd ["ends"] (spV (GG.of K cl nm) 1 F_want_ends) := by
  refine Fn.okX sc_want_ends (fun vs H Q E h => h.1) (fun cdv A outer s H vs Q E hr h => ?_)
  have c := ct_bodyX (P := P) (w := w) (mg := mg) (base := base) (qual := "want_ends") (f := f) (cd := cdv) (outer := outer) (s := s) (H := H) (E := E) (G := (GG.of K cl nm)) rfl sc_want_ends hr
  exact body_ok (X := cxOf (L2.CX P w) P w K mg base ["ends"] "want_ends" (defScope s_want_ends) f cdv A outer s H E) (N := ["ends"]) (A := []) (m := m_want_ends) (body := defBody s_want_ends) (sss_one (ss_if (st_not (st_chain op_le op_le (so_tmp (se_int)) (so_var (pv 0)) (so_tmp (se_gi (by rfl) T.c_BOTH_WALLS)))) (sss_one (ss_never)) (sss_nil))) h (by decide)
theorem ok_want_ends {f : Addr} {fd : FuncData} (T : Txt P K (GG.of K cl nm) mg) (Fn : Fun K "want_ends" "want_ends" s_want_ends f fd) (hm : mg "want_ends" = some (.ref f)) : FnH P w K mg base (GG.of K cl nm) 1 "want_ends" ["ends"] F_want_ends :=
  ⟨f, fd, core_want_ends T Fn, hm, Fn.kp, Fn.binds fun _ _ _ _ _ _ us hl => match us, hl with | [_], _ => rfl⟩
abbrev s_want_rule : Stmt := top 17
abbrev b_want_rule_1 : MS := mSeq (mIfS (mNot (mB (mChain (fun i j => decide (i < j)) (fun i j => decide (i ≤ j)) (.var 1 pAny) (.var 3 pAny) (.tmp (mC (.int (40))) pAny)))) (mNever) (mNext)) (mSet 1 (mVar 3))
def m_want_rule : MS := mSeq (mSet 1 (mOp [.tmp (mC (.int (2))) pAny, .tmp (mC (.int 1)) pAny] dSub)) (mFor (mI1 (mIf (mB (mOp [.var 0 pAny, .tmp (mC .non) pAny] dIsN)) (mOp [] dTup) (mVar 0)) dEnum) (gT [2, 3]) b_want_rule_1)
def F_want_rule : FV := mDef 4 1 [1, 2, 3, 1] m_want_rule
theorem sc_want_rule : FnScope ["rule", "before", "at", "length"] ["rule"] (defScope s_want_rule) := ⟨rfl, rfl, rfl, by decide +kernel, rfl, by decide +kernel, by decide +kernel⟩
theorem core_want_rule {f : Addr} {fd : FuncData} (T : Txt P K (GG.of K cl nm) mg) (Fn : Fun K "want_rule" "want_rule" s_want_rule f fd) : FnOk P w K mg base (L2.CX P w) 1 f fd ["rule"] (spV (GG.of K cl nm) 1 F_want_rule) := by
  refine Fn.okX sc_want_rule (fun vs H Q E h => h.1) (fun cdv A outer s H vs Q E hr h => ?_)
  have c := ct_bodyX (P := P) (w := w) (mg := mg) (base := base) (qual := "want_rule") (f := f) (cd := cdv) (outer := outer) (s := s) (H := H) (E := E) (G := (GG.of K cl nm)) rfl sc_want_rule hr
  exact body_ok (X := cxOf (L2.CX P w) P w K mg base ["rule", "before", "at", "length"] "want_rule" (defScope s_want_rule) f cdv A outer s H E) (N := ["rule", "before", "at", "length"]) (A := [1, 2, 3, 1]) (m := m_want_rule) (body := defBody s_want_rule) (sss_cons (ss_set c rfl (Or.inl rfl) (se_sub (so_tmp (se_gi (by rfl) T.c_LEAST_LENGTH)) (so_tmp (se_int))))
    (sss_one (ss_for c (si_enum c (by rfl) T.n_enumerate (se_ifExp (st_isN (so_var (pv 0)) (so_tmp (se_non))) (se_tup (so_nil)) (se_var (pv 0)))) (by exact pg_tup (c.calm rfl) (pgs_cons (pg_name c.nd rfl (Or.inl rfl)) (pgs_cons (pg_name c.nd rfl (Or.inl rfl)) (pgs_nil)))) gok_tup nex_tup (sss_cons (ss_if (st_not (st_chain op_lt op_le (so_var (pv 1)) (so_var (pv 3)) (so_tmp (se_gi (by rfl) T.c_MOST_STONES)))) (sss_one (ss_never)) (sss_nil))
    (sss_one (ss_set c rfl (Or.inl rfl) (se_var (pv 3)))))))) h (by decide)
theorem ok_want_rule {f : Addr} {fd : FuncData} (T : Txt P K (GG.of K cl nm) mg) (Fn : Fun K "want_rule" "want_rule" s_want_rule f fd) (hm : mg "want_rule" = some (.ref f)) : FnH P w K mg base (GG.of K cl nm) 1 "want_rule" ["rule"] F_want_rule :=
  ⟨f, fd, core_want_rule T Fn, hm, Fn.kp, Fn.binds fun _ _ _ _ _ _ us hl => match us, hl with | [_], _ => rfl⟩
abbrev s_init_Row : Stmt := inClass (top 18) 0
def ms_Row : List MS := [mDo (mCallP ([.var 1 pAny] ++ []) [.int 1] [0, 1] F_want_stones) kDrop,
  mDo (mCall [.var 2 pAny] F_want_ends) kDrop,
  mDo (mCall [.var 3 pAny] F_want_rule) kDrop]
def l_Row : List (Str × Nat) := [("stones", 1), ("ends", 2), ("rule", 3)]
theorem sc_init_Row : FnScope ["self", "stones", "ends", "rule"] ["self", "stones", "ends", "rule"] (defScope s_init_Row) := ⟨rfl, rfl, rfl, by decide +kernel, rfl, by decide +kernel, by decide +kernel⟩
theorem core_Row {f : Addr} {fd : FuncData} (T : Txt P K (GG.of K cl nm) mg) (Fn : FnD K "__init__" "Row.__init__" s_init_Row [] [("ends", V.int 0), ("rule", V.non)] f fd) (h_want_ends : FnH P w K mg base (GG.of K cl nm) 1 "want_ends" ["ends"] F_want_ends) (h_want_rule : FnH P w K mg base (GG.of K cl nm) 1 "want_rule" ["rule"] F_want_rule) (k_want_stones_1 : FnKw P w K mg base (GG.of K cl nm) 2 "want_stones" ["stones", "least"] F_want_stones 1 [] [0, 1] [V.int 1]) : FnOk P w K mg base CX0 3 f fd ["self", "stones", "ends", "rule"] (spI (GG.of K cl nm) 0 4 4 ms_Row l_Row) := by
  refine Fn.ok sc_init_Row (fun vs H Q E h => (by obtain ⟨_, _, _, _, _, _, h, _⟩ := h; exact h)) (fun cdv A outer s H vs Q E hr h => ?_)
  have c := ct_body (P := P) (w := w) (mg := mg) (base := base) (qual := "Row.__init__") (f := f) (cd := cdv) (outer := outer) (s := s) (H := H) (E := E) (G := (GG.of K cl nm)) rfl sc_init_Row hr
  obtain ⟨t, h1, h2⟩ := init_ok (N := ["self", "stones", "ends", "rule"]) (body := defBody s_init_Row) (l := l_Row) (ms := ms_Row) (X := (cxOf CX0 P w K mg base ["self", "stones", "ends", "rule"] "Row.__init__" (defScope s_init_Row) f cdv A outer s H E).nox) (by exact pre_cons (ss_expr (se_kw k_want_stones_1 (fun _ => .cons (.int _) (.nil)) rfl rfl rfl (by decide) (by decide) (by decide) c.tk hr (so_cons (so_var (pv 1)) (so_nil)) (pk_nilO))) (pre_cons (ss_expr (se_fn h_want_ends rfl (by decide) c.tk hr (so_cons (so_var (pv 2)) (so_nil)))) (pre_cons (ss_expr (se_fn h_want_rule rfl (by decide) c.tk hr (so_cons (so_var (pv 3)) (so_nil)))) (pre_nil (fl_cons rfl (pv 0) (pv 1) rfl (fl_cons rfl (pv 0) (pv 2) rfl (fl_cons rfl (pv 0) (pv 3) rfl (fl_nil)))))))) (fun _ => trivial) h (by decide) T.k_Row (T.a_Row) (by decide) (by decide) (by decide)
  exact ⟨t, h1.nox, h2⟩
abbrev s_high : Stmt := top 26
abbrev t_high_1 : MT := mB (mOp [.var 3 pAny, .var 1 pAny] dGe)
abbrev u_high_2 : ME := mVar 3
def m_high : MS := mSeq (mSet 2 (mOp [.tmp (mLc [3] (mI1 (mOp [.var 0 pAny] (dFld nm "stones")) D.seq) (gN 3) (t_high_1) (u_high_2)) pAny] dTupOf)) (mSeq (mIfS (mB (mOp [.var 2 pAny, .tmp (mOp [] dTup) pAny] dEq)) (mRaise 2 (mC (.int 0))) (mNext)) (mDo (mOp ([.var 2 pAny] ++ [.tmp (mOp [.var 0 pAny] (dFld nm "ends")) pAny]) (fMake 0 4 ms_Row l_Row [.non] [0, 1, 2])) kRet))
def F_high : FV := mDef 4 2 [2] m_high
theorem sc_high : FnScope ["row", "least", "kept", "stone"] ["row", "least"] (defScope s_high) := ⟨rfl, rfl, rfl, by decide +kernel, rfl, by decide +kernel, by decide +kernel⟩
theorem core_high {f : Addr} {fd : FuncData} (T : Txt P K (GG.of K cl nm) mg) (Fn : Fun K "high" "high" s_high f fd) (q_Row_1_ends : FnMk P w K mg base (GG.of K cl nm) 3 "Row" 0 4 ["self", "stones", "ends", "rule"] ms_Row l_Row 1 ["ends"] [0, 1, 2] [V.non]) : FnOk P w K mg base (L2.CX P w) 5 f fd ["row", "least"] (spV (GG.of K cl nm) 2 F_high) := by
  refine Fn.okX sc_high (fun vs H Q E h => h.1) (fun cdv A outer s H vs Q E hr h => ?_)
  have c := ct_bodyX (P := P) (w := w) (mg := mg) (base := base) (qual := "high") (f := f) (cd := cdv) (outer := outer) (s := s) (H := H) (E := E) (G := (GG.of K cl nm)) rfl sc_high hr
  exact body_ok (X := cxOf (L2.CX P w) P w K mg base ["row", "least", "kept", "stone"] "high" (defScope s_high) f cdv A outer s H E) (N := ["row", "least", "kept", "stone"]) (A := [2]) (m := m_high) (body := defBody s_high) (sss_cons (ss_set c rfl (Or.inl rfl) (se_tupOf c T.n_tuple (so_tmp (se_lc (own := [("stone", 3)]) c (si_seq c (se_fld c T.f_stones (so_var (pv 0)))) (show BlkOk ["row", "least", "kept", "stone"] (defScope s_high) _ _ from ⟨rfl, by decide +kernel, by decide +kernel, by decide +kernel, by decide +kernel⟩) gok_name lenk_name (by decide) (fun _ _ _ _ _ => pg_name c.blk.nd rfl (Or.inl rfl)) (fun _ _ _ _ _ => sts_one (st_ge (so_var (pv 3)) (so_var (pv 1)))) (fun _ _ _ _ _ => se_var (pv 3))))))
    (sss_cons (ss_if (st_eq c (so_var (pv 2)) (so_tmp (se_tup (so_nil)))) (sss_one (ss_raise c T.x_BadSize hr (se_int))) (sss_nil))
    (sss_one (ss_ret (se_mk q_Row_1_ends (fun _ => .cons .non (.nil)) rfl rfl rfl (by decide) (by decide) (by decide) rfl (by decide) hr (so_cons (so_var (pv 2)) (so_nil)) (pk_consO (so_tmp (se_fld c T.f_ends (so_var (pv 0)))) (pk_nilO))))))) h (by decide)
theorem ok_high {f : Addr} {fd : FuncData} (T : Txt P K (GG.of K cl nm) mg) (Fn : Fun K "high" "high" s_high f fd) (hm : mg "high" = some (.ref f)) (q_Row_1_ends : FnMk P w K mg base (GG.of K cl nm) 3 "Row" 0 4 ["self", "stones", "ends", "rule"] ms_Row l_Row 1 ["ends"] [0, 1, 2] [V.non]) : FnH P w K mg base (GG.of K cl nm) 5 "high" ["row", "least"] F_high :=
  ⟨f, fd, core_high T Fn q_Row_1_ends, hm, Fn.kp, Fn.binds fun _ _ _ _ _ _ us hl => match us, hl with | [_, _], _ => rfl⟩
abbrev s_span : Stmt := top 23
abbrev t_span_1 : MT := mAnd (mB (mOp [.var 3 pAny, .tmp (mC (.int 0)) pAny] dGt)) (mB (mOp [.tmp (mOp [.var 2 pAny, .tmp (mOp [.var 3 pAny, .tmp (mC (.int 1)) pAny] dSub) pAny] dIx) pAny, .var 1 pAny] dLt))
abbrev b_span_2 : MS := mSet 3 (mOp [.var 3 pAny, .tmp (mC (.int 1)) pAny] dSub)
abbrev t_span_3 : MT := mAnd (mB (mOp [.tmp (mOp [.var 4 pAny, .tmp (mC (.int 1)) pAny] dAdd) pAny, .tmp (mOp [.var 2 pAny] dLen) pAny] dLt)) (mB (mOp [.tmp (mOp [.var 2 pAny, .tmp (mOp [.var 4 pAny, .tmp (mC (.int 1)) pAny] dAdd) pAny] dIx) pAny, .var 1 pAny] dLt))
abbrev b_span_4 : MS := mSet 4 (mOp [.var 4 pAny, .tmp (mC (.int 1)) pAny] dAdd)
def m_span : MS := mSeq (mSet 2 (mOp [.var 0 pAny] (dFld nm "stones"))) (mSeq (mDo (mOp [.var 2 pTup, .var 1 pAny] dIxT) (kSet2 3 4)) (mSeq (mWhile t_span_1 b_span_2) (mSeq (mWhile t_span_3 b_span_4) (mDo (mOp [.var 3 pAny, .var 4 pAny] dTup) kRet))))
def F_span : FV := mDef 5 2 [2, 3, 4, 3, 4] m_span
theorem sc_span : FnScope ["row", "x", "stones", "first", "last"] ["row", "x"] (defScope s_span) := ⟨rfl, rfl, rfl, by decide +kernel, rfl, by decide +kernel, by decide +kernel⟩
theorem core_span {f : Addr} {fd : FuncData} (T : Txt P K (GG.of K cl nm) mg) (Fn : Fun K "span" "span" s_span f fd) : FnOk P w K mg base (L2.CX P w) 1 f fd ["row", "x"] (spV (GG.of K cl nm) 2 F_span) := by
  refine Fn.okX sc_span (fun vs H Q E h => h.1) (fun cdv A outer s H vs Q E hr h => ?_)
  have c := ct_bodyX (P := P) (w := w) (mg := mg) (base := base) (qual := "span") (f := f) (cd := cdv) (outer := outer) (s := s) (H := H) (E := E) (G := (GG.of K cl nm)) rfl sc_span hr
  exact body_ok (X := cxOf (L2.CX P w) P w K mg base ["row", "x", "stones", "first", "last"] "span" (defScope s_span) f cdv A outer s H E) (N := ["row", "x", "stones", "first", "last"]) (A := [2, 3, 4, 3, 4]) (m := m_span) (body := defBody s_span) (sss_cons (ss_set c rfl (Or.inl rfl) (se_fld c T.f_stones (so_var (pv 0))))
    (sss_cons (ss_set2 c (se_ixT c rfl (so_varC pTup (pv 2)) (so_var (pv 1))) (pg_name c.nd rfl (Or.inl rfl)) (pg_name c.nd rfl (Or.inl rfl)))
    (sss_cons (ss_while c (st_bool (sw_and (st_gt (so_var (pv 3)) (so_tmp (se_int))) (sw_and1 (st_lt (so_tmp (se_ix c (so_var (pv 2)) (so_tmp (se_sub (so_var (pv 3)) (so_tmp (se_int)))))) (so_var (pv 1)))))) (sss_one (ss_set c rfl (Or.inl rfl) (se_sub (so_var (pv 3)) (so_tmp (se_int))))))
    (sss_cons (ss_while c (st_bool (sw_and (st_lt (so_tmp (se_add c (so_var (pv 4)) (so_tmp (se_int)))) (so_tmp (se_len c T.n_len (so_var (pv 2))))) (sw_and1 (st_lt (so_tmp (se_ix c (so_var (pv 2)) (so_tmp (se_add c (so_var (pv 4)) (so_tmp (se_int)))))) (so_var (pv 1)))))) (sss_one (ss_set c rfl (Or.inl rfl) (se_add c (so_var (pv 4)) (so_tmp (se_int))))))
    (sss_one (ss_ret (se_tup (so_cons (so_var (pv 3)) (so_cons (so_var (pv 4)) (so_nil)))))))))) h (by decide)
theorem ok_span {f : Addr} {fd : FuncData} (T : Txt P K (GG.of K cl nm) mg) (Fn : Fun K "span" "span" s_span f fd) (hm : mg "span" = some (.ref f)) : FnH P w K mg base (GG.of K cl nm) 1 "span" ["row", "x"] F_span :=
  ⟨f, fd, core_span T Fn, hm, Fn.kp, Fn.binds fun _ _ _ _ _ _ us hl => match us, hl with | [_, _], _ => rfl⟩
abbrev s_length_of : Stmt := top 33
def m_length_of : MS := mSeq (mDo (mCall [.var 0 pAny, .var 1 pAny] F_span) (kUnp [2, 3])) (mDo (mOp [.tmp (mOp [.var 3 pAny, .var 2 pAny] dSub) pAny, .tmp (mC (.int 1)) pAny] dAdd) kRet)
def F_length_of : FV := mDef 4 2 [2, 3] m_length_of
theorem sc_length_of : FnScope ["row", "x", "first", "last"] ["row", "x"] (defScope s_length_of) := ⟨rfl, rfl, rfl, by decide +kernel, rfl, by decide +kernel, by decide +kernel⟩
theorem core_length_of {f : Addr} {fd : FuncData} (T : Txt P K (GG.of K cl nm) mg) (Fn : Fun K "length_of" "length_of" s_length_of f fd) (h_span : FnH P w K mg base (GG.of K cl nm) 1 "span" ["row", "x"] F_span) : FnOk P w K mg base (L2.CX P w) 2 f fd ["row", "x"] (spV (GG.of K cl nm) 2 F_length_of) := by
  refine Fn.okX sc_length_of (fun vs H Q E h => h.1) (fun cdv A outer s H vs Q E hr h => ?_)
  have c := ct_bodyX (P := P) (w := w) (mg := mg) (base := base) (qual := "length_of") (f := f) (cd := cdv) (outer := outer) (s := s) (H := H) (E := E) (G := (GG.of K cl nm)) rfl sc_length_of hr
  exact body_ok (X := cxOf (L2.CX P w) P w K mg base ["row", "x", "first", "last"] "length_of" (defScope s_length_of) f cdv A outer s H E) (N := ["row", "x", "first", "last"]) (A := [2, 3]) (m := m_length_of) (body := defBody s_length_of) (sss_cons (ss_unp c (se_fn h_span rfl (by decide) c.tk hr (so_cons (so_var (pv 0)) (so_cons (so_var (pv 1)) (so_nil)))) (pgs_cons (pg_name c.nd rfl (Or.inl rfl)) (pgs_cons (pg_name c.nd rfl (Or.inl rfl)) (pgs_nil))))
    (sss_one (ss_ret (se_add c (so_tmp (se_sub (so_var (pv 3)) (so_var (pv 2)))) (so_tmp (se_int)))))) h (by decide)
theorem ok_length_of {f : Addr} {fd : FuncData} (T : Txt P K (GG.of K cl nm) mg) (Fn : Fun K "length_of" "length_of" s_length_of f fd) (hm : mg "length_of" = some (.ref f)) (h_span : FnH P w K mg base (GG.of K cl nm) 1 "span" ["row", "x"] F_span) : FnH P w K mg base (GG.of K cl nm) 2 "length_of" ["row", "x"] F_length_of :=
  ⟨f, fd, core_length_of T Fn h_span, hm, Fn.kp, Fn.binds fun _ _ _ _ _ _ us hl => match us, hl with | [_, _], _ => rfl⟩
abbrev s_beside : Stmt := top 24
def m_beside : MS := mSeq (mSet 3 (mOp [.var 0 pAny] (dFld nm "stones"))) (mSeq (mSet 4 (mIf (mB (mOp [.var 1 pAny, .tmp (mC (.int 0)) pAny] dGt)) (mOp [.var 3 pAny, .tmp (mOp [.var 1 pAny, .tmp (mC (.int 1)) pAny] dSub) pAny] dIx) (mIf (mB (mOp [.tmp (mOp [.var 0 pAny] (dFld nm "ends")) pAny, .tmp (mOp [.tmp (mC (.int (1))) pAny, .tmp (mOp [.tmp (mC (.int (1))) pAny, .tmp (mC (.int (2))) pAny] dAdd) pAny] dTup) pAny] (dInA false))) (mC (.str "wall")) (mC (.str "open"))))) (mSeq (mIfS (mB (mOp [.tmp (mOp [.var 2 pAny, .tmp (mC (.int 1)) pAny] dAdd) pAny, .tmp (mOp [.var 3 pAny] dLen) pAny] dLt)) (mDo (mOp [.var 4 pAny, .tmp (mOp [.var 3 pAny, .tmp (mOp [.var 2 pAny, .tmp (mC (.int 1)) pAny] dAdd) pAny] dIx) pAny] dTup) kRet) (mNext)) (mDo (mOp [.var 4 pAny, .tmp (mIf (mB (mOp [.tmp (mOp [.var 0 pAny] (dFld nm "ends")) pAny, .tmp (mC (.int (2))) pAny] dGe)) (mC (.str "wall")) (mC (.str "open"))) pAny] dTup) kRet)))
def F_beside : FV := mDef 5 3 [3, 4] m_beside
theorem sc_beside : FnScope ["row", "first", "last", "stones", "ahead"] ["row", "first", "last"] (defScope s_beside) := ⟨rfl, rfl, rfl, by decide +kernel, rfl, by decide +kernel, by decide +kernel⟩
theorem core_beside {f : Addr} {fd : FuncData} (T : Txt P K (GG.of K cl nm) mg) (Fn : Fun K "beside" "beside" s_beside f fd) : FnOk P w K mg base (L2.CX P w) 1 f fd ["row", "first", "last"] (spV (GG.of K cl nm) 3 F_beside) := by
  refine Fn.okX sc_beside (fun vs H Q E h => h.1) (fun cdv A outer s H vs Q E hr h => ?_)
  have c := ct_bodyX (P := P) (w := w) (mg := mg) (base := base) (qual := "beside") (f := f) (cd := cdv) (outer := outer) (s := s) (H := H) (E := E) (G := (GG.of K cl nm)) rfl sc_beside hr
  exact body_ok (X := cxOf (L2.CX P w) P w K mg base ["row", "first", "last", "stones", "ahead"] "beside" (defScope s_beside) f cdv A outer s H E) (N := ["row", "first", "last", "stones", "ahead"]) (A := [3, 4]) (m := m_beside) (body := defBody s_beside) (sss_cons (ss_set c rfl (Or.inl rfl) (se_fld c T.f_stones (so_var (pv 0))))
    (sss_cons (ss_set c rfl (Or.inl rfl) (se_ifExp (st_gt (so_var (pv 1)) (so_tmp (se_int))) (se_ix c (so_var (pv 3)) (so_tmp (se_sub (so_var (pv 1)) (so_tmp (se_int))))) (se_ifExp (st_inA c (so_tmp (se_fld c T.f_ends (so_var (pv 0)))) (so_tmp (se_tup (so_cons (so_tmp (se_gi (by rfl) T.c_WALL_AHEAD)) (so_cons (so_tmp (se_add c (so_tmp (se_gi (by rfl) T.c_WALL_AHEAD)) (so_tmp (se_gi (by rfl) T.c_WALL_BEHIND)))) (so_nil)))))) (se_gs (by rfl) T.c_WALL) (se_gs (by rfl) T.c_OPEN))))
    (sss_cons (ss_if (st_lt (so_tmp (se_add c (so_var (pv 2)) (so_tmp (se_int)))) (so_tmp (se_len c T.n_len (so_var (pv 3))))) (sss_one (ss_ret (se_tup (so_cons (so_var (pv 4)) (so_cons (so_tmp (se_ix c (so_var (pv 3)) (so_tmp (se_add c (so_var (pv 2)) (so_tmp (se_int)))))) (so_nil)))))) (sss_nil))
    (sss_one (ss_ret (se_tup (so_cons (so_var (pv 4)) (so_cons (so_tmp (se_ifExp (st_ge (so_tmp (se_fld c T.f_ends (so_var (pv 0)))) (so_tmp (se_gi (by rfl) T.c_WALL_BEHIND))) (se_gs (by rfl) T.c_WALL) (se_gs (by rfl) T.c_OPEN))) (so_nil))))))))) h (by decide)
theorem ok_beside {f : Addr} {fd : FuncData} (T : Txt P K (GG.of K cl nm) mg) (Fn : Fun K "beside" "beside" s_beside f fd) (hm : mg "beside" = some (.ref f)) : FnH P w K mg base (GG.of K cl nm) 1 "beside" ["row", "first", "last"] F_beside :=
  ⟨f, fd, core_beside T Fn, hm, Fn.kp, Fn.binds fun _ _ _ _ _ _ us hl => match us, hl with | [_, _, _], _ => rfl⟩
abbrev s_has_flag : Stmt := top 32
def m_has_flag : MS := mSeq (mDo (mCall [.var 0 pAny, .var 1 pAny] F_span) (kUnp [2, 3])) (mDo (mOp [.tmp (mC (.str "open")) pAny, .tmp (mCall [.var 0 pAny, .var 2 pAny, .var 3 pAny] F_beside) pAny] (dInA false)) kRet)
def F_has_flag : FV := mDef 4 2 [2, 3] m_has_flag
theorem sc_has_flag : FnScope ["row", "x", "first", "last"] ["row", "x"] (defScope s_has_flag) := ⟨rfl, rfl, rfl, by decide +kernel, rfl, by decide +kernel, by decide +kernel⟩
theorem core_has_flag {f : Addr} {fd : FuncData} (T : Txt P K (GG.of K cl nm) mg) (Fn : Fun K "has_flag" "has_flag" s_has_flag f fd) (h_span : FnH P w K mg base (GG.of K cl nm) 1 "span" ["row", "x"] F_span) (h_beside : FnH P w K mg base (GG.of K cl nm) 1 "beside" ["row", "first", "last"] F_beside) : FnOk P w K mg base (L2.CX P w) 2 f fd ["row", "x"] (spV (GG.of K cl nm) 2 F_has_flag) := by
  refine Fn.okX sc_has_flag (fun vs H Q E h => h.1) (fun cdv A outer s H vs Q E hr h => ?_)
  have c := ct_bodyX (P := P) (w := w) (mg := mg) (base := base) (qual := "has_flag") (f := f) (cd := cdv) (outer := outer) (s := s) (H := H) (E := E) (G := (GG.of K cl nm)) rfl sc_has_flag hr
  exact body_ok (X := cxOf (L2.CX P w) P w K mg base ["row", "x", "first", "last"] "has_flag" (defScope s_has_flag) f cdv A outer s H E) (N := ["row", "x", "first", "last"]) (A := [2, 3]) (m := m_has_flag) (body := defBody s_has_flag) (sss_cons (ss_unp c (se_fn h_span rfl (by decide) c.tk hr (so_cons (so_var (pv 0)) (so_cons (so_var (pv 1)) (so_nil)))) (pgs_cons (pg_name c.nd rfl (Or.inl rfl)) (pgs_cons (pg_name c.nd rfl (Or.inl rfl)) (pgs_nil))))
    (sss_one (ss_ret (se_inA c (so_tmp (se_gs (by rfl) T.c_OPEN)) (so_tmp (se_fn h_beside rfl (by decide) c.tk hr (so_cons (so_var (pv 0)) (so_cons (so_var (pv 2)) (so_cons (so_var (pv 3)) (so_nil)))))))))) h (by decide)
theorem ok_has_flag {f : Addr} {fd : FuncData} (T : Txt P K (GG.of K cl nm) mg) (Fn : Fun K "has_flag" "has_flag" s_has_flag f fd) (hm : mg "has_flag" = some (.ref f)) (h_span : FnH P w K mg base (GG.of K cl nm) 1 "span" ["row", "x"] F_span) (h_beside : FnH P w K mg base (GG.of K cl nm) 1 "beside" ["row", "first", "last"] F_beside) : FnH P w K mg base (GG.of K cl nm) 2 "has_flag" ["row", "x"] F_has_flag :=
  ⟨f, fd, core_has_flag T Fn h_span h_beside, hm, Fn.kp, Fn.binds fun _ _ _ _ _ _ us hl => match us, hl with | [_, _], _ => rfl⟩
abbrev s_is_head : Stmt := top 34
def m_is_head : MS := mDo (mAndV (mOp [.var 1 pAny, .tmp (mOp [.var 0 pAny] (dFld nm "stones")) pAny] (dInA false)) (mAndV (mOp [.tmp (mCall [.var 0 pAny, .var 1 pAny] F_length_of) pAny, .tmp (mC (.int (2))) pAny] dGe) (mNotV (mCall [.var 0 pAny, .var 1 pAny] F_has_flag)))) kRet
def F_is_head : FV := mDef 2 2 [] m_is_head
theorem sc_is_head : FnScope ["row", "x"] ["row", "x"] (defScope s_is_head) := ⟨rfl, rfl, rfl, by decide +kernel, rfl, by decide +kernel, by decide +kernel⟩
theorem core_is_head {f : Addr} {fd : FuncData} (T : Txt P K (GG.of K cl nm) mg) (Fn : Fun K "is_head" "is_head" s_is_head f fd) (h_length_of : FnH P w K mg base (GG.of K cl nm) 2 "length_of" ["row", "x"] F_length_of) (h_has_flag : FnH P w K mg base (GG.of K cl nm) 2 "has_flag" ["row", "x"] F_has_flag) : FnOk P w K mg base (L2.CX P w) 3 f fd ["row", "x"] (spV (GG.of K cl nm) 2 F_is_head) := by
  refine Fn.okX sc_is_head (fun vs H Q E h => h.1) (fun cdv A outer s H vs Q E hr h => ?_)
  have c := ct_bodyX (P := P) (w := w) (mg := mg) (base := base) (qual := "is_head") (f := f) (cd := cdv) (outer := outer) (s := s) (H := H) (E := E) (G := (GG.of K cl nm)) rfl sc_is_head hr
  exact body_ok (X := cxOf (L2.CX P w) P w K mg base ["row", "x"] "is_head" (defScope s_is_head) f cdv A outer s H E) (N := ["row", "x"]) (A := []) (m := m_is_head) (body := defBody s_is_head) (sss_one (ss_ret (se_and (se_inA c (so_var (pv 1)) (so_tmp (se_fld c T.f_stones (so_var (pv 0))))) (se_and (se_ge (so_tmp (se_fn h_length_of rfl (by decide) c.tk hr (so_cons (so_var (pv 0)) (so_cons (so_var (pv 1)) (so_nil))))) (so_tmp (se_gi (by rfl) T.c_LEAST_LOT))) (se_one (se_not (se_fn h_has_flag rfl (by decide) c.tk hr (so_cons (so_var (pv 0)) (so_cons (so_var (pv 1)) (so_nil)))))))))) h (by decide)
theorem ok_is_head {f : Addr} {fd : FuncData} (T : Txt P K (GG.of K cl nm) mg) (Fn : Fun K "is_head" "is_head" s_is_head f fd) (hm : mg "is_head" = some (.ref f)) (h_length_of : FnH P w K mg base (GG.of K cl nm) 2 "length_of" ["row", "x"] F_length_of) (h_has_flag : FnH P w K mg base (GG.of K cl nm) 2 "has_flag" ["row", "x"] F_has_flag) : FnH P w K mg base (GG.of K cl nm) 3 "is_head" ["row", "x"] F_is_head :=
  ⟨f, fd, core_is_head T Fn h_length_of h_has_flag, hm, Fn.kp, Fn.binds fun _ _ _ _ _ _ us hl => match us, hl with | [_, _], _ => rfl⟩
abbrev s_heads : Stmt := top 35
abbrev t_heads_1 : MT := mB (mOp [.tmp (mCall [.var 0 pAny, .var 1 pAny] F_is_head) pAny] dTru)
abbrev u_heads_2 : ME := mVar 1
def m_heads : MS := mDo (mOp [.tmp (mLc [1] (mI1 (mOp [.tmp (mOp [.var 0 pAny] (dFld nm "stones")) pAny] dSort) D.seq) (gN 1) (t_heads_1) (u_heads_2)) pAny] dTupOf) kRet
def F_heads : FV := mDef 2 1 [] m_heads
theorem sc_heads : FnScope ["row", "x"] ["row"] (defScope s_heads) := ⟨rfl, rfl, rfl, by decide +kernel, rfl, by decide +kernel, by decide +kernel⟩
theorem core_heads {f : Addr} {fd : FuncData} (T : Txt P K (GG.of K cl nm) mg) (Fn : Fun K "heads" "heads" s_heads f fd) (h_is_head : FnH P w K mg base (GG.of K cl nm) 3 "is_head" ["row", "x"] F_is_head) : FnOk P w K mg base (L2.CX P w) 4 f fd ["row"] (spV (GG.of K cl nm) 1 F_heads) := by
  refine Fn.okX sc_heads (fun vs H Q E h => h.1) (fun cdv A outer s H vs Q E hr h => ?_)
  have c := ct_bodyX (P := P) (w := w) (mg := mg) (base := base) (qual := "heads") (f := f) (cd := cdv) (outer := outer) (s := s) (H := H) (E := E) (G := (GG.of K cl nm)) rfl sc_heads hr
  exact body_ok (X := cxOf (L2.CX P w) P w K mg base ["row", "x"] "heads" (defScope s_heads) f cdv A outer s H E) (N := ["row", "x"]) (A := []) (m := m_heads) (body := defBody s_heads) (sss_one (ss_ret (se_tupOf c T.n_tuple (so_tmp (se_lc (own := [("x", 1)]) c (si_seq c (se_sort c T.n_sorted (so_tmp (se_fld c T.f_stones (so_var (pv 0)))))) (show BlkOk ["row", "x"] (defScope s_heads) _ _ from ⟨rfl, by decide +kernel, by decide +kernel, by decide +kernel, by decide +kernel⟩) gok_name lenk_name (by decide) (fun _ _ _ _ _ => pg_name c.blk.nd rfl (Or.inl rfl)) (fun _ _ _ _ _ => sts_one (st_truth c.blk (so_tmp (se_fn h_is_head rfl (by decide) c.blk.tk hr (so_cons (so_var (pv 0)) (so_cons (so_var (pv 1)) (so_nil))))))) (fun _ _ _ _ _ => se_var (pv 1))))))) h (by decide)
theorem ok_heads {f : Addr} {fd : FuncData} (T : Txt P K (GG.of K cl nm) mg) (Fn : Fun K "heads" "heads" s_heads f fd) (hm : mg "heads" = some (.ref f)) (h_is_head : FnH P w K mg base (GG.of K cl nm) 3 "is_head" ["row", "x"] F_is_head) : FnH P w K mg base (GG.of K cl nm) 4 "heads" ["row"] F_heads :=
  ⟨f, fd, core_heads T Fn h_is_head, hm, Fn.kp, Fn.binds fun _ _ _ _ _ _ us hl => match us, hl with | [_], _ => rfl⟩
abbrev s_want_stone : Stmt := top 19
def m_want_stone : MS := mIfS (mB (mOp [.var 1 pAny, .tmp (mOp [.var 0 pAny] (dFld nm "stones")) pAny] (dInA true))) (mNever) (mNext)
def F_want_stone : FV := mDef 2 2 [] m_want_stone
theorem sc_want_stone : FnScope ["row", "x"] ["row", "x"] (defScope s_want_stone) := ⟨rfl, rfl, rfl, by decide +kernel, rfl, by decide +kernel, by decide +kernel⟩
theorem core_want_stone {f : Addr} {fd : FuncData} (T : Txt P K (GG.of K cl nm) mg) (Fn : Fun K "want_stone" "want_stone" s_want_stone f fd) : FnOk P w K mg base (L2.CX P w) 1 f fd ["row", "x"] (spV (GG.of K cl nm) 2 F_want_stone) := by
  refine Fn.okX sc_want_stone (fun vs H Q E h => h.1) (fun cdv A outer s H vs Q E hr h => ?_)
  have c := ct_bodyX (P := P) (w := w) (mg := mg) (base := base) (qual := "want_stone") (f := f) (cd := cdv) (outer := outer) (s := s) (H := H) (E := E) (G := (GG.of K cl nm)) rfl sc_want_stone hr
  exact body_ok (X := cxOf (L2.CX P w) P w K mg base ["row", "x"] "want_stone" (defScope s_want_stone) f cdv A outer s H E) (N := ["row", "x"]) (A := []) (m := m_want_stone) (body := defBody s_want_stone) (sss_one (ss_if (st_notInA c (so_var (pv 1)) (so_tmp (se_fld c T.f_stones (so_var (pv 0))))) (sss_one (ss_never)) (sss_nil))) h (by decide)
theorem ok_want_stone {f : Addr} {fd : FuncData} (T : Txt P K (GG.of K cl nm) mg) (Fn : Fun K "want_stone" "want_stone" s_want_stone f fd) (hm : mg "want_stone" = some (.ref f)) : FnH P w K mg base (GG.of K cl nm) 1 "want_stone" ["row", "x"] F_want_stone :=
  ⟨f, fd, core_want_stone T Fn, hm, Fn.kp, Fn.binds fun _ _ _ _ _ _ us hl => match us, hl with | [_, _], _ => rfl⟩
abbrev s_Row_place : Stmt := inClass (top 18) 3
def m_Row_place : MS := mSeq (mDo (mCall [.var 0 pAny, .var 1 pAny] F_want_stone) kDrop) (mDo (mOp [.tmp (mOp [.var 0 pAny] (dFld nm "stones")) pTup, .var 1 pAny] dIxT) kRet)
def F_Row_place : FV := mDef 2 2 [] m_Row_place
theorem sc_Row_place : FnScope ["self", "x"] ["self", "x"] (defScope s_Row_place) := ⟨rfl, rfl, rfl, by decide +kernel, rfl, by decide +kernel, by decide +kernel⟩
theorem core_Row_place {f : Addr} {fd : FuncData} (T : Txt P K (GG.of K cl nm) mg) (Fn : Fun K "place" "Row.place" s_Row_place f fd) (h_want_stone : FnH P w K mg base (GG.of K cl nm) 1 "want_stone" ["row", "x"] F_want_stone) : FnOk P w K mg base (L2.CX P w) 2 f fd ["self", "x"] (spV (GG.of K cl nm) 2 F_Row_place) := by
  refine Fn.okX sc_Row_place (fun vs H Q E h => h.1) (fun cdv A outer s H vs Q E hr h => ?_)
  have c := ct_bodyX (P := P) (w := w) (mg := mg) (base := base) (qual := "Row.place") (f := f) (cd := cdv) (outer := outer) (s := s) (H := H) (E := E) (G := (GG.of K cl nm)) rfl sc_Row_place hr
  exact body_ok (X := cxOf (L2.CX P w) P w K mg base ["self", "x"] "Row.place" (defScope s_Row_place) f cdv A outer s H E) (N := ["self", "x"]) (A := []) (m := m_Row_place) (body := defBody s_Row_place) (sss_cons (ss_expr (se_fn h_want_stone rfl (by decide) c.tk hr (so_cons (so_var (pv 0)) (so_cons (so_var (pv 1)) (so_nil)))))
    (sss_one (ss_ret (se_ixT c rfl (so_tmpC pTup (se_fld c T.f_stones (so_var (pv 0)))) (so_var (pv 1)))))) h (by decide)
theorem ok_Row_place {f : Addr} {fd : FuncData} (T : Txt P K (GG.of K cl nm) mg) (Fn : Fun K "place" "Row.place" s_Row_place f fd) (hM : Meth K (cl 0) "place" f) (h_want_stone : FnH P w K mg base (GG.of K cl nm) 1 "want_stone" ["row", "x"] F_want_stone) : FnMt P w K mg base (GG.of K cl nm) 2 0 "place" ["self", "x"] F_Row_place :=
  ⟨f, fd, T.k_Row, hM, core_Row_place T Fn h_want_stone, Fn.binds fun _ _ _ _ _ _ us hl => match us, hl with | [_, _], _ => rfl⟩
abbrev s_is_ahead : Stmt := top 37
def m_is_ahead : MS := mDo (mOrV (mOp [.var 2 pAny, .tmp (mC .non) pAny] dIsN) (mOp [.tmp (mCall (.var 0 (pIns 0) :: [.var 1 pAny]) F_Row_place) pAny, .tmp (mCall (.var 0 (pIns 0) :: [.var 2 pAny]) F_Row_place) pAny] dLt)) kRet
def F_is_ahead : FV := mDef 3 3 [] m_is_ahead
theorem sc_is_ahead : FnScope ["row", "x", "y"] ["row", "x", "y"] (defScope s_is_ahead) := ⟨rfl, rfl, rfl, by decide +kernel, rfl, by decide +kernel, by decide +kernel⟩
theorem core_is_ahead {f : Addr} {fd : FuncData} (T : Txt P K (GG.of K cl nm) mg) (Fn : Fun K "is_ahead" "is_ahead" s_is_ahead f fd) (t_Row_place : FnMt P w K mg base (GG.of K cl nm) 2 0 "place" ["self", "x"] F_Row_place) : FnOk P w K mg base (L2.CX P w) 3 f fd ["row", "x", "y"] (spV (GG.of K cl nm) 3 F_is_ahead) := by
  refine Fn.okX sc_is_ahead (fun vs H Q E h => h.1) (fun cdv A outer s H vs Q E hr h => ?_)
  have c := ct_bodyX (P := P) (w := w) (mg := mg) (base := base) (qual := "is_ahead") (f := f) (cd := cdv) (outer := outer) (s := s) (H := H) (E := E) (G := (GG.of K cl nm)) rfl sc_is_ahead hr
  exact body_ok (X := cxOf (L2.CX P w) P w K mg base ["row", "x", "y"] "is_ahead" (defScope s_is_ahead) f cdv A outer s H E) (N := ["row", "x", "y"]) (A := []) (m := m_is_ahead) (body := defBody s_is_ahead) (sss_one (ss_ret (se_or (se_isN (so_var (pv 2)) (so_tmp (se_non))) (se_one (se_lt (so_tmp (se_meth t_Row_place rfl (by decide) c.tk hr (show (("place" : Str) ∉ nm 0) by decide +kernel) (so_varC (pIns 0) (pv 0)) rfl (so_cons (so_var (pv 1)) (so_nil)))) (so_tmp (se_meth t_Row_place rfl (by decide) c.tk hr (show (("place" : Str) ∉ nm 0) by decide +kernel) (so_varC (pIns 0) (pv 0)) rfl (so_cons (so_var (pv 2)) (so_nil))))))))) h (by decide)
theorem ok_is_ahead {f : Addr} {fd : FuncData} (T : Txt P K (GG.of K cl nm) mg) (Fn : Fun K "is_ahead" "is_ahead" s_is_ahead f fd) (hm : mg "is_ahead" = some (.ref f)) (t_Row_place : FnMt P w K mg base (GG.of K cl nm) 2 0 "place" ["self", "x"] F_Row_place) : FnH P w K mg base (GG.of K cl nm) 3 "is_ahead" ["row", "x", "y"] F_is_ahead :=
  ⟨f, fd, core_is_ahead T Fn t_Row_place, hm, Fn.kp, Fn.binds fun _ _ _ _ _ _ us hl => match us, hl with | [_, _, _], _ => rfl⟩
abbrev s_greatest : Stmt := top 29
def m_greatest : MS := mDo (mIf (mB (mOp [.var 0 pAny] dTru)) (mOp [.var 0 pAny] dMaxS) (mC .non)) kRet
def F_greatest : FV := mDef 1 1 [] m_greatest
theorem sc_greatest : FnScope ["stones"] ["stones"] (defScope s_greatest) := ⟨rfl, rfl, rfl, by decide +kernel, rfl, by decide +kernel, by decide +kernel⟩
theorem core_greatest {f : Addr} {fd : FuncData} (T : Txt P K (GG.of K cl nm) mg) (Fn : Fun K "greatest" "greatest" s_greatest f fd) : FnOk P w K mg base (L2.CX P w) 1 f fd ["stones"] (spV (GG.of K cl nm) 1 F_greatest) := by
  refine Fn.okX sc_greatest (fun vs H Q E h => h.1) (fun cdv A outer s H vs Q E hr h => ?_)
  have c := ct_bodyX (P := P) (w := w) (mg := mg) (base := base) (qual := "greatest") (f := f) (cd := cdv) (outer := outer) (s := s) (H := H) (E := E) (G := (GG.of K cl nm)) rfl sc_greatest hr
  exact body_ok (X := cxOf (L2.CX P w) P w K mg base ["stones"] "greatest" (defScope s_greatest) f cdv A outer s H E) (N := ["stones"]) (A := []) (m := m_greatest) (body := defBody s_greatest) (sss_one (ss_ret (se_ifExp (st_truth c (so_var (pv 0))) (se_maxS c T.n_max (so_var (pv 0))) (se_non)))) h (by decide)
theorem ok_greatest {f : Addr} {fd : FuncData} (T : Txt P K (GG.of K cl nm) mg) (Fn : Fun K "greatest" "greatest" s_greatest f fd) (hm : mg "greatest" = some (.ref f)) : FnH P w K mg base (GG.of K cl nm) 1 "greatest" ["stones"] F_greatest :=
  ⟨f, fd, core_greatest T Fn, hm, Fn.kp, Fn.binds fun _ _ _ _ _ _ us hl => match us, hl with | [_], _ => rfl⟩
abbrev s_lower : Stmt := top 31
def m_lower : MS := mSeq (mDo (mCall [.var 0 pAny, .var 1 pAny] F_span) (kUnp [2, 3])) (mSeq (mSet 4 (mOp [.tmp (mOp [.var 0 pAny] (dFld nm "stones")) pTup, .var 1 pAny] dIxT)) (mDo (mOp [.tmp (mCall [.tmp (mOp [.tmp (mOp [.var 0 pAny] (dFld nm "stones")) pAny, .var 2 pInt, .var 4 pInt] dSl11) pAny] F_greatest) pAny, .tmp (mCall [.tmp (mOp [.tmp (mOp [.var 0 pAny] (dFld nm "stones")) pAny, .tmp (mOp [.var 4 pAny, .tmp (mC (.int 1)) pAny] dAdd) pInt, .tmp (mOp [.var 3 pAny, .tmp (mC (.int 1)) pAny] dAdd) pInt] dSl11) pAny] F_greatest) pAny] dTup) kRet))
def F_lower : FV := mDef 5 2 [2, 3, 4] m_lower
theorem sc_lower : FnScope ["row", "x", "first", "last", "place"] ["row", "x"] (defScope s_lower) := ⟨rfl, rfl, rfl, by decide +kernel, rfl, by decide +kernel, by decide +kernel⟩
theorem core_lower {f : Addr} {fd : FuncData} (T : Txt P K (GG.of K cl nm) mg) (Fn : Fun K "lower" "lower" s_lower f fd) (h_span : FnH P w K mg base (GG.of K cl nm) 1 "span" ["row", "x"] F_span) (h_greatest : FnH P w K mg base (GG.of K cl nm) 1 "greatest" ["stones"] F_greatest) : FnOk P w K mg base (L2.CX P w) 2 f fd ["row", "x"] (spV (GG.of K cl nm) 2 F_lower) := by
  refine Fn.okX sc_lower (fun vs H Q E h => h.1) (fun cdv A outer s H vs Q E hr h => ?_)
  have c := ct_bodyX (P := P) (w := w) (mg := mg) (base := base) (qual := "lower") (f := f) (cd := cdv) (outer := outer) (s := s) (H := H) (E := E) (G := (GG.of K cl nm)) rfl sc_lower hr
  exact body_ok (X := cxOf (L2.CX P w) P w K mg base ["row", "x", "first", "last", "place"] "lower" (defScope s_lower) f cdv A outer s H E) (N := ["row", "x", "first", "last", "place"]) (A := [2, 3, 4]) (m := m_lower) (body := defBody s_lower) (sss_cons (ss_unp c (se_fn h_span rfl (by decide) c.tk hr (so_cons (so_var (pv 0)) (so_cons (so_var (pv 1)) (so_nil)))) (pgs_cons (pg_name c.nd rfl (Or.inl rfl)) (pgs_cons (pg_name c.nd rfl (Or.inl rfl)) (pgs_nil))))
    (sss_cons (ss_set c rfl (Or.inl rfl) (se_ixT c rfl (so_tmpC pTup (se_fld c T.f_stones (so_var (pv 0)))) (so_var (pv 1))))
    (sss_one (ss_ret (se_tup (so_cons (so_tmp (se_fn h_greatest rfl (by decide) c.tk hr (so_cons (so_tmp (se_sl11 c (so_tmp (se_fld c T.f_stones (so_var (pv 0)))) (so_varC pInt (pv 2)) (so_varC pInt (pv 4)) rfl rfl)) (so_nil)))) (so_cons (so_tmp (se_fn h_greatest rfl (by decide) c.tk hr (so_cons (so_tmp (se_sl11 c (so_tmp (se_fld c T.f_stones (so_var (pv 0)))) (so_tmpC pInt (se_add c (so_var (pv 4)) (so_tmp (se_int)))) (so_tmpC pInt (se_add c (so_var (pv 3)) (so_tmp (se_int)))) rfl rfl)) (so_nil)))) (so_nil)))))))) h (by decide)
theorem ok_lower {f : Addr} {fd : FuncData} (T : Txt P K (GG.of K cl nm) mg) (Fn : Fun K "lower" "lower" s_lower f fd) (hm : mg "lower" = some (.ref f)) (h_span : FnH P w K mg base (GG.of K cl nm) 1 "span" ["row", "x"] F_span) (h_greatest : FnH P w K mg base (GG.of K cl nm) 1 "greatest" ["stones"] F_greatest) : FnH P w K mg base (GG.of K cl nm) 2 "lower" ["row", "x"] F_lower :=
  ⟨f, fd, core_lower T Fn h_span h_greatest, hm, Fn.kp, Fn.binds fun _ _ _ _ _ _ us hl => match us, hl with | [_, _], _ => rfl⟩
abbrev s_greater_child : Stmt := top 38
abbrev t_greater_child_1 : MT := mB (mOp [.var 2 pAny, .tmp (mC .non) pAny] dNotN)
abbrev u_greater_child_2 : ME := mVar 2
def m_greater_child : MS := mDo (mOp [.tmp (mLc [2] (mI1 (mCall [.var 0 pAny, .var 1 pAny] F_lower) D.seq) (gN 2) (t_greater_child_1) (u_greater_child_2)) pAny] dMaxS) kRet
def F_greater_child : FV := mDef 3 2 [] m_greater_child
theorem sc_greater_child : FnScope ["row", "x", "child"] ["row", "x"] (defScope s_greater_child) := ⟨rfl, rfl, rfl, by decide +kernel, rfl, by decide +kernel, by decide +kernel⟩
theorem core_greater_child {f : Addr} {fd : FuncData} (T : Txt P K (GG.of K cl nm) mg) (Fn : Fun K "greater_child" "greater_child" s_greater_child f fd) (h_lower : FnH P w K mg base (GG.of K cl nm) 2 "lower" ["row", "x"] F_lower) : FnOk P w K mg base (L2.CX P w) 3 f fd ["row", "x"] (spV (GG.of K cl nm) 2 F_greater_child) := by
  refine Fn.okX sc_greater_child (fun vs H Q E h => h.1) (fun cdv A outer s H vs Q E hr h => ?_)
  have c := ct_bodyX (P := P) (w := w) (mg := mg) (base := base) (qual := "greater_child") (f := f) (cd := cdv) (outer := outer) (s := s) (H := H) (E := E) (G := (GG.of K cl nm)) rfl sc_greater_child hr
  exact body_ok (X := cxOf (L2.CX P w) P w K mg base ["row", "x", "child"] "greater_child" (defScope s_greater_child) f cdv A outer s H E) (N := ["row", "x", "child"]) (A := []) (m := m_greater_child) (body := defBody s_greater_child) (sss_one (ss_ret (se_maxS c T.n_max (so_tmp (se_lc (own := [("child", 2)]) c (si_seq c (se_fn h_lower rfl (by decide) c.tk hr (so_cons (so_var (pv 0)) (so_cons (so_var (pv 1)) (so_nil))))) (show BlkOk ["row", "x", "child"] (defScope s_greater_child) _ _ from ⟨rfl, by decide +kernel, by decide +kernel, by decide +kernel, by decide +kernel⟩) gok_name lenk_name (by decide) (fun _ _ _ _ _ => pg_name c.blk.nd rfl (Or.inl rfl)) (fun _ _ _ _ _ => sts_one (st_notN (so_var (pv 2)) (so_tmp (se_non)))) (fun _ _ _ _ _ => se_var (pv 2))))))) h (by decide)
theorem ok_greater_child {f : Addr} {fd : FuncData} (T : Txt P K (GG.of K cl nm) mg) (Fn : Fun K "greater_child" "greater_child" s_greater_child f fd) (hm : mg "greater_child" = some (.ref f)) (h_lower : FnH P w K mg base (GG.of K cl nm) 2 "lower" ["row", "x"] F_lower) : FnH P w K mg base (GG.of K cl nm) 3 "greater_child" ["row", "x"] F_greater_child :=
  ⟨f, fd, core_greater_child T Fn h_lower, hm, Fn.kp, Fn.binds fun _ _ _ _ _ _ us hl => match us, hl with | [_, _], _ => rfl⟩
abbrev s_upper : Stmt := top 30
abbrev t_upper_1 : MT := mB (mOp [.var 5 pAny, .tmp (mOp [.tmp (mC (.str "open")) pAny, .tmp (mC (.str "wall")) pAny] dTup) pAny] (dInA true))
abbrev u_upper_2 : ME := mVar 5
def m_upper : MS := mSeq (mDo (mCall [.var 0 pAny, .var 1 pAny] F_span) (kUnp [2, 3])) (mSeq (mDo (mLc [5] (mI1 (mCall [.var 0 pAny, .var 2 pAny, .var 3 pAny] F_beside) D.seq) (gN 5) (t_upper_1) (u_upper_2)) (kSet 4)) (mDo (mIf (mB (mOp [.var 4 pAny] dTru)) (mOp [.var 4 pAny] dMinS) (mC .non)) kRet))
def F_upper : FV := mDef 6 2 [2, 3, 4] m_upper
theorem sc_upper : FnScope ["row", "x", "first", "last", "found", "one"] ["row", "x"] (defScope s_upper) := ⟨rfl, rfl, rfl, by decide +kernel, rfl, by decide +kernel, by decide +kernel⟩
theorem core_upper {f : Addr} {fd : FuncData} (T : Txt P K (GG.of K cl nm) mg) (Fn : Fun K "upper" "upper" s_upper f fd) (h_span : FnH P w K mg base (GG.of K cl nm) 1 "span" ["row", "x"] F_span) (h_beside : FnH P w K mg base (GG.of K cl nm) 1 "beside" ["row", "first", "last"] F_beside) : FnOk P w K mg base (L2.CX P w) 2 f fd ["row", "x"] (spV (GG.of K cl nm) 2 F_upper) := by
  refine Fn.okX sc_upper (fun vs H Q E h => h.1) (fun cdv A outer s H vs Q E hr h => ?_)
  have c := ct_bodyX (P := P) (w := w) (mg := mg) (base := base) (qual := "upper") (f := f) (cd := cdv) (outer := outer) (s := s) (H := H) (E := E) (G := (GG.of K cl nm)) rfl sc_upper hr
  exact body_ok (X := cxOf (L2.CX P w) P w K mg base ["row", "x", "first", "last", "found", "one"] "upper" (defScope s_upper) f cdv A outer s H E) (N := ["row", "x", "first", "last", "found", "one"]) (A := [2, 3, 4]) (m := m_upper) (body := defBody s_upper) (sss_cons (ss_unp c (se_fn h_span rfl (by decide) c.tk hr (so_cons (so_var (pv 0)) (so_cons (so_var (pv 1)) (so_nil)))) (pgs_cons (pg_name c.nd rfl (Or.inl rfl)) (pgs_cons (pg_name c.nd rfl (Or.inl rfl)) (pgs_nil))))
    (sss_cons (ss_setLc (own := [("one", 5)]) c rfl rfl rfl (si_seq c (se_fn h_beside rfl (by decide) c.tk hr (so_cons (so_var (pv 0)) (so_cons (so_var (pv 2)) (so_cons (so_var (pv 3)) (so_nil)))))) (show BlkOk ["row", "x", "first", "last", "found", "one"] (defScope s_upper) _ _ from ⟨rfl, by decide +kernel, by decide +kernel, by decide +kernel, by decide +kernel⟩) gok_name lenk_name (by decide) (fun _ _ _ _ _ => pg_name c.blk.nd rfl (Or.inl rfl)) (fun _ _ _ _ _ => sts_one (st_notInA c.blk (so_var (pv 5)) (so_tmp (se_tup (so_cons (so_tmp (se_gs (by rfl) T.c_OPEN)) (so_cons (so_tmp (se_gs (by rfl) T.c_WALL)) (so_nil))))))) (fun _ _ _ _ _ => se_var (pv 5)))
    (sss_one (ss_ret (se_ifExp (st_truth c (so_var (pv 4))) (se_minS c T.n_min (so_var (pv 4))) (se_non)))))) h (by decide)
theorem ok_upper {f : Addr} {fd : FuncData} (T : Txt P K (GG.of K cl nm) mg) (Fn : Fun K "upper" "upper" s_upper f fd) (hm : mg "upper" = some (.ref f)) (h_span : FnH P w K mg base (GG.of K cl nm) 1 "span" ["row", "x"] F_span) (h_beside : FnH P w K mg base (GG.of K cl nm) 1 "beside" ["row", "first", "last"] F_beside) : FnH P w K mg base (GG.of K cl nm) 2 "upper" ["row", "x"] F_upper :=
  ⟨f, fd, core_upper T Fn h_span h_beside, hm, Fn.kp, Fn.binds fun _ _ _ _ _ _ us hl => match us, hl with | [_, _], _ => rfl⟩
abbrev s_sense_of : Stmt := top 39
def m_sense_of : MS := mDo (mOp [.tmp (mOp [.tmp (mCall [.var 0 pAny, .tmp (mCall [.var 0 pAny, .var 1 pAny] F_greater_child) pAny, .var 1 pAny] F_is_ahead) pAny, .tmp (mCall [.var 0 pAny, .var 1 pAny, .tmp (mCall [.var 0 pAny, .var 1 pAny] F_upper) pAny] F_is_ahead) pAny] dNe) pAny] dInt) kRet
def F_sense_of : FV := mDef 2 2 [] m_sense_of
theorem sc_sense_of : FnScope ["row", "x"] ["row", "x"] (defScope s_sense_of) := ⟨rfl, rfl, rfl, by decide +kernel, rfl, by decide +kernel, by decide +kernel⟩
theorem core_sense_of {f : Addr} {fd : FuncData} (T : Txt P K (GG.of K cl nm) mg) (Fn : Fun K "sense_of" "sense_of" s_sense_of f fd) (h_greater_child : FnH P w K mg base (GG.of K cl nm) 3 "greater_child" ["row", "x"] F_greater_child) (h_is_ahead : FnH P w K mg base (GG.of K cl nm) 3 "is_ahead" ["row", "x", "y"] F_is_ahead) (h_upper : FnH P w K mg base (GG.of K cl nm) 2 "upper" ["row", "x"] F_upper) : FnOk P w K mg base (L2.CX P w) 4 f fd ["row", "x"] (spV (GG.of K cl nm) 2 F_sense_of) := by
  refine Fn.okX sc_sense_of (fun vs H Q E h => h.1) (fun cdv A outer s H vs Q E hr h => ?_)
  have c := ct_bodyX (P := P) (w := w) (mg := mg) (base := base) (qual := "sense_of") (f := f) (cd := cdv) (outer := outer) (s := s) (H := H) (E := E) (G := (GG.of K cl nm)) rfl sc_sense_of hr
  exact body_ok (X := cxOf (L2.CX P w) P w K mg base ["row", "x"] "sense_of" (defScope s_sense_of) f cdv A outer s H E) (N := ["row", "x"]) (A := []) (m := m_sense_of) (body := defBody s_sense_of) (sss_one (ss_ret (se_intOf T.n_int (so_tmp (se_ne c (so_tmp (se_fn h_is_ahead rfl (by decide) c.tk hr (so_cons (so_var (pv 0)) (so_cons (so_tmp (se_fn h_greater_child rfl (by decide) c.tk hr (so_cons (so_var (pv 0)) (so_cons (so_var (pv 1)) (so_nil))))) (so_cons (so_var (pv 1)) (so_nil)))))) (so_tmp (se_fn h_is_ahead rfl (by decide) c.tk hr (so_cons (so_var (pv 0)) (so_cons (so_var (pv 1)) (so_cons (so_tmp (se_fn h_upper rfl (by decide) c.tk hr (so_cons (so_var (pv 0)) (so_cons (so_var (pv 1)) (so_nil))))) (so_nil))))))))))) h (by decide)
theorem ok_sense_of {f : Addr} {fd : FuncData} (T : Txt P K (GG.of K cl nm) mg) (Fn : Fun K "sense_of" "sense_of" s_sense_of f fd) (hm : mg "sense_of" = some (.ref f)) (h_greater_child : FnH P w K mg base (GG.of K cl nm) 3 "greater_child" ["row", "x"] F_greater_child) (h_is_ahead : FnH P w K mg base (GG.of K cl nm) 3 "is_ahead" ["row", "x", "y"] F_is_ahead) (h_upper : FnH P w K mg base (GG.of K cl nm) 2 "upper" ["row", "x"] F_upper) : FnH P w K mg base (GG.of K cl nm) 4 "sense_of" ["row", "x"] F_sense_of :=
  ⟨f, fd, core_sense_of T Fn h_greater_child h_is_ahead h_upper, hm, Fn.kp, Fn.binds fun _ _ _ _ _ _ us hl => match us, hl with | [_, _], _ => rfl⟩
abbrev s_sense : Stmt := top 40
def m_sense : MS := mSeq (mIfS (mNot (mB (mOp [.tmp (mCall [.var 0 pAny, .var 1 pAny] F_is_head) pAny] dTru))) (mNever) (mNext)) (mDo (mCall [.var 0 pAny, .var 1 pAny] F_sense_of) kRet)
def F_sense : FV := mDef 2 2 [] m_sense
theorem sc_sense : FnScope ["row", "x"] ["row", "x"] (defScope s_sense) := ⟨rfl, rfl, rfl, by decide +kernel, rfl, by decide +kernel, by decide +kernel⟩
theorem core_sense {f : Addr} {fd : FuncData} (T : Txt P K (GG.of K cl nm) mg) (Fn : Fun K "sense" "sense" s_sense f fd) (h_is_head : FnH P w K mg base (GG.of K cl nm) 3 "is_head" ["row", "x"] F_is_head) (h_sense_of : FnH P w K mg base (GG.of K cl nm) 4 "sense_of" ["row", "x"] F_sense_of) : FnOk P w K mg base (L2.CX P w) 5 f fd ["row", "x"] (spV (GG.of K cl nm) 2 F_sense) := by
  refine Fn.okX sc_sense (fun vs H Q E h => h.1) (fun cdv A outer s H vs Q E hr h => ?_)
  have c := ct_bodyX (P := P) (w := w) (mg := mg) (base := base) (qual := "sense") (f := f) (cd := cdv) (outer := outer) (s := s) (H := H) (E := E) (G := (GG.of K cl nm)) rfl sc_sense hr
  exact body_ok (X := cxOf (L2.CX P w) P w K mg base ["row", "x"] "sense" (defScope s_sense) f cdv A outer s H E) (N := ["row", "x"]) (A := []) (m := m_sense) (body := defBody s_sense) (sss_cons (ss_if (st_not (st_truth c (so_tmp (se_fn h_is_head rfl (by decide) c.tk hr (so_cons (so_var (pv 0)) (so_cons (so_var (pv 1)) (so_nil))))))) (sss_one (ss_never)) (sss_nil))
    (sss_one (ss_ret (se_fn h_sense_of rfl (by decide) c.tk hr (so_cons (so_var (pv 0)) (so_cons (so_var (pv 1)) (so_nil))))))) h (by decide)
theorem ok_sense {f : Addr} {fd : FuncData} (T : Txt P K (GG.of K cl nm) mg) (Fn : Fun K "sense" "sense" s_sense f fd) (hm : mg "sense" = some (.ref f)) (h_is_head : FnH P w K mg base (GG.of K cl nm) 3 "is_head" ["row", "x"] F_is_head) (h_sense_of : FnH P w K mg base (GG.of K cl nm) 4 "sense_of" ["row", "x"] F_sense_of) : FnH P w K mg base (GG.of K cl nm) 5 "sense" ["row", "x"] F_sense :=
  ⟨f, fd, core_sense T Fn h_is_head h_sense_of, hm, Fn.kp, Fn.binds fun _ _ _ _ _ _ us hl => match us, hl with | [_, _], _ => rfl⟩
abbrev s__law_parent : Stmt := top 50
abbrev t__law_parent_1 : MT := mB (mOp [.var 4 pAny, .tmp (mOp [.tmp (mC (.str "wall")) pAny, .tmp (mC (.str "open")) pAny] dTup) pAny] (dInA true))
abbrev u__law_parent_2 : ME := mVar 4
def m__law_parent : MS := mSeq (mDo (mLc [4] (mI1 (mCall [.var 0 pAny, .var 1 pAny, .var 2 pAny] F__law_closers) D.seq) (gN 4) (t__law_parent_1) (u__law_parent_2)) (kSet 3)) (mDo (mIf (mB (mOp [.var 3 pAny, .tmp (mOp [] dLst) pAny] dNe)) (mOp [.var 3 pAny] dMinS) (mC .non)) kRet)
def F__law_parent : FV := mDef 5 3 [3] m__law_parent
theorem sc__law_parent : FnScope ["_law_stones_here", "_law_ends", "_law_x", "_law_some", "_law_one_here"] ["_law_stones_here", "_law_ends", "_law_x"] (defScope s__law_parent) := ⟨rfl, rfl, rfl, by decide +kernel, rfl, by decide +kernel, by decide +kernel⟩
theorem core__law_parent {f : Addr} {fd : FuncData} (T : Txt P K (GG.of K cl nm) mg) (Fn : Fun K "_law_parent" "_law_parent" s__law_parent f fd) (h__law_closers : FnH P w K mg base (GG.of K cl nm) 2 "_law_closers" ["_law_stones_here", "_law_ends", "_law_x"] F__law_closers) : FnOk P w K mg base (L2.CX P w) 3 f fd ["_law_stones_here", "_law_ends", "_law_x"] (spV (GG.of K cl nm) 3 F__law_parent) := by
  refine Fn.okX sc__law_parent (fun vs H Q E h => h.1) (fun cdv A outer s H vs Q E hr h => ?_)
  have c := ct_bodyX (P := P) (w := w) (mg := mg) (base := base) (qual := "_law_parent") (f := f) (cd := cdv) (outer := outer) (s := s) (H := H) (E := E) (G := (GG.of K cl nm)) rfl sc__law_parent hr
  exact body_ok (X := cxOf (L2.CX P w) P w K mg base ["_law_stones_here", "_law_ends", "_law_x", "_law_some", "_law_one_here"] "_law_parent" (defScope s__law_parent) f cdv A outer s H E) (N := ["_law_stones_here", "_law_ends", "_law_x", "_law_some", "_law_one_here"]) (A := [3]) (m := m__law_parent) (body := defBody s__law_parent) (sss_cons (ss_setLc (own := [("_law_one_here", 4)]) c rfl rfl rfl (si_seq c (se_fn h__law_closers rfl (by decide) c.tk hr (so_cons (so_var (pv 0)) (so_cons (so_var (pv 1)) (so_cons (so_var (pv 2)) (so_nil)))))) (show BlkOk ["_law_stones_here", "_law_ends", "_law_x", "_law_some", "_law_one_here"] (defScope s__law_parent) _ _ from ⟨rfl, by decide +kernel, by decide +kernel, by decide +kernel, by decide +kernel⟩) gok_name lenk_name (by decide) (fun _ _ _ _ _ => pg_name c.blk.nd rfl (Or.inl rfl)) (fun _ _ _ _ _ => sts_one (st_notInA c.blk (so_var (pv 4)) (so_tmp (se_tup (so_cons (so_tmp (se_str)) (so_cons (so_tmp (se_str)) (so_nil))))))) (fun _ _ _ _ _ => se_var (pv 4)))
    (sss_one (ss_ret (se_ifExp (st_ne c (so_var (pv 3)) (so_tmp (se_lst (so_nil)))) (se_minS c T.n_min (so_var (pv 3))) (se_non))))) h (by decide)
theorem ok__law_parent {f : Addr} {fd : FuncData} (T : Txt P K (GG.of K cl nm) mg) (Fn : Fun K "_law_parent" "_law_parent" s__law_parent f fd) (hm : mg "_law_parent" = some (.ref f)) (h__law_closers : FnH P w K mg base (GG.of K cl nm) 2 "_law_closers" ["_law_stones_here", "_law_ends", "_law_x"] F__law_closers) : FnH P w K mg base (GG.of K cl nm) 3 "_law_parent" ["_law_stones_here", "_law_ends", "_law_x"] F__law_parent :=
  ⟨f, fd, core__law_parent T Fn h__law_closers, hm, Fn.kp, Fn.binds fun _ _ _ _ _ _ us hl => match us, hl with | [_, _, _], _ => rfl⟩
abbrev s__law_side : Stmt := top 54
abbrev t__law_side_1 : MT := mB (mOp [.var 5 pAny, .var 1 pAny] dNe)
abbrev u__law_side_2 : ME := mVar 5
def m__law_side : MS := mSeq (mDo (mCall [.var 0 pAny, .var 1 pAny] F__law_span) (kUnp [2, 3])) (mSeq (mSet 4 (mOp [.tmp (mLc [5] (mI1 (mOp [.var 0 pAny, .var 2 pInt, .tmp (mOp [.var 3 pAny, .tmp (mC (.int 1)) pAny] dAdd) pInt] dSl11) D.seq) (gN 5) (t__law_side_1) (u__law_side_2)) pAny] dMaxS)) (mDo (mOp [.tmp (mOp [.tmp (mOp [.var 0 pTup, .var 4 pAny] dIxT) pAny, .tmp (mOp [.var 0 pTup, .var 1 pAny] dIxT) pAny] dGt) pAny] dInt) kRet))
def F__law_side : FV := mDef 6 2 [2, 3, 4] m__law_side
theorem sc__law_side : FnScope ["_law_stones_here", "_law_x", "_law_first", "_law_last", "_law_child", "_law_y"] ["_law_stones_here", "_law_x"] (defScope s__law_side) := ⟨rfl, rfl, rfl, by decide +kernel, rfl, by decide +kernel, by decide +kernel⟩
theorem core__law_side {f : Addr} {fd : FuncData} (T : Txt P K (GG.of K cl nm) mg) (Fn : Fun K "_law_side" "_law_side" s__law_side f fd) (h__law_span : FnH P w K mg base (GG.of K cl nm) 1 "_law_span" ["_law_stones_here", "_law_x"] F__law_span) : FnOk P w K mg base (L2.CX P w) 2 f fd ["_law_stones_here", "_law_x"] (spV (GG.of K cl nm) 2 F__law_side) := by
  refine Fn.okX sc__law_side (fun vs H Q E h => h.1) (fun cdv A outer s H vs Q E hr h => ?_)
  have c := ct_bodyX (P := P) (w := w) (mg := mg) (base := base) (qual := "_law_side") (f := f) (cd := cdv) (outer := outer) (s := s) (H := H) (E := E) (G := (GG.of K cl nm)) rfl sc__law_side hr
  exact body_ok (X := cxOf (L2.CX P w) P w K mg base ["_law_stones_here", "_law_x", "_law_first", "_law_last", "_law_child", "_law_y"] "_law_side" (defScope s__law_side) f cdv A outer s H E) (N := ["_law_stones_here", "_law_x", "_law_first", "_law_last", "_law_child", "_law_y"]) (A := [2, 3, 4]) (m := m__law_side) (body := defBody s__law_side) (sss_cons (ss_unp c (se_fn h__law_span rfl (by decide) c.tk hr (so_cons (so_var (pv 0)) (so_cons (so_var (pv 1)) (so_nil)))) (pgs_cons (pg_name c.nd rfl (Or.inl rfl)) (pgs_cons (pg_name c.nd rfl (Or.inl rfl)) (pgs_nil))))
    (sss_cons (ss_set c rfl (Or.inl rfl) (se_maxS c T.n_max (so_tmp (se_lc (own := [("_law_y", 5)]) c (si_seq c (se_sl11 c (so_var (pv 0)) (so_varC pInt (pv 2)) (so_tmpC pInt (se_add c (so_var (pv 3)) (so_tmp (se_int)))) rfl rfl)) (show BlkOk ["_law_stones_here", "_law_x", "_law_first", "_law_last", "_law_child", "_law_y"] (defScope s__law_side) _ _ from ⟨rfl, by decide +kernel, by decide +kernel, by decide +kernel, by decide +kernel⟩) gok_name lenk_name (by decide) (fun _ _ _ _ _ => pg_name c.blk.nd rfl (Or.inl rfl)) (fun _ _ _ _ _ => sts_one (st_ne c.blk (so_var (pv 5)) (so_var (pv 1)))) (fun _ _ _ _ _ => se_var (pv 5))))))
    (sss_one (ss_ret (se_intOf T.n_int (so_tmp (se_gt (so_tmp (se_ixT c rfl (so_varC pTup (pv 0)) (so_var (pv 4)))) (so_tmp (se_ixT c rfl (so_varC pTup (pv 0)) (so_var (pv 1))))))))))) h (by decide)
theorem ok__law_side {f : Addr} {fd : FuncData} (T : Txt P K (GG.of K cl nm) mg) (Fn : Fun K "_law_side" "_law_side" s__law_side f fd) (hm : mg "_law_side" = some (.ref f)) (h__law_span : FnH P w K mg base (GG.of K cl nm) 1 "_law_span" ["_law_stones_here", "_law_x"] F__law_span) : FnH P w K mg base (GG.of K cl nm) 2 "_law_side" ["_law_stones_here", "_law_x"] F__law_side :=
  ⟨f, fd, core__law_side T Fn h__law_span, hm, Fn.kp, Fn.binds fun _ _ _ _ _ _ us hl => match us, hl with | [_, _], _ => rfl⟩
abbrev s__law_sense : Stmt := top 55
def m__law_sense : MS := mSeq (mSet 3 (mCall [.var 0 pAny, .var 1 pAny, .var 2 pAny] F__law_parent)) (mSeq (mSet 4 (mOrV (mOp [.var 3 pAny, .tmp (mC .non) pAny] dIsN) (mOp [.tmp (mOp [.var 0 pTup, .var 2 pAny] dIxT) pAny, .tmp (mOp [.var 0 pTup, .var 3 pAny] dIxT) pAny] dLt))) (mDo (mOp [.tmp (mOp [.tmp (mOp [.tmp (mCall [.var 0 pAny, .var 2 pAny] F__law_side) pAny, .tmp (mC (.int 0)) pAny] dEq) pAny, .var 4 pAny] dNe) pAny] dInt) kRet))
def F__law_sense : FV := mDef 5 3 [3, 4] m__law_sense
theorem sc__law_sense : FnScope ["_law_stones_here", "_law_ends", "_law_x", "_law_parent_here", "_law_is_ahead"] ["_law_stones_here", "_law_ends", "_law_x"] (defScope s__law_sense) := ⟨rfl, rfl, rfl, by decide +kernel, rfl, by decide +kernel, by decide +kernel⟩
theorem core__law_sense {f : Addr} {fd : FuncData} (T : Txt P K (GG.of K cl nm) mg) (Fn : Fun K "_law_sense" "_law_sense" s__law_sense f fd) (h__law_parent : FnH P w K mg base (GG.of K cl nm) 3 "_law_parent" ["_law_stones_here", "_law_ends", "_law_x"] F__law_parent) (h__law_side : FnH P w K mg base (GG.of K cl nm) 2 "_law_side" ["_law_stones_here", "_law_x"] F__law_side) : FnOk P w K mg base (L2.CX P w) 4 f fd ["_law_stones_here", "_law_ends", "_law_x"] (spV (GG.of K cl nm) 3 F__law_sense) := by
  refine Fn.okX sc__law_sense (fun vs H Q E h => h.1) (fun cdv A outer s H vs Q E hr h => ?_)
  have c := ct_bodyX (P := P) (w := w) (mg := mg) (base := base) (qual := "_law_sense") (f := f) (cd := cdv) (outer := outer) (s := s) (H := H) (E := E) (G := (GG.of K cl nm)) rfl sc__law_sense hr
  exact body_ok (X := cxOf (L2.CX P w) P w K mg base ["_law_stones_here", "_law_ends", "_law_x", "_law_parent_here", "_law_is_ahead"] "_law_sense" (defScope s__law_sense) f cdv A outer s H E) (N := ["_law_stones_here", "_law_ends", "_law_x", "_law_parent_here", "_law_is_ahead"]) (A := [3, 4]) (m := m__law_sense) (body := defBody s__law_sense) (sss_cons (ss_set c rfl (Or.inl rfl) (se_fn h__law_parent rfl (by decide) c.tk hr (so_cons (so_var (pv 0)) (so_cons (so_var (pv 1)) (so_cons (so_var (pv 2)) (so_nil))))))
    (sss_cons (ss_set c rfl (Or.inl rfl) (se_or (se_isN (so_var (pv 3)) (so_tmp (se_non))) (se_one (se_lt (so_tmp (se_ixT c rfl (so_varC pTup (pv 0)) (so_var (pv 2)))) (so_tmp (se_ixT c rfl (so_varC pTup (pv 0)) (so_var (pv 3))))))))
    (sss_one (ss_ret (se_intOf T.n_int (so_tmp (se_ne c (so_tmp (se_eq c (so_tmp (se_fn h__law_side rfl (by decide) c.tk hr (so_cons (so_var (pv 0)) (so_cons (so_var (pv 2)) (so_nil))))) (so_tmp (se_int)))) (so_var (pv 4))))))))) h (by decide)
theorem ok__law_sense {f : Addr} {fd : FuncData} (T : Txt P K (GG.of K cl nm) mg) (Fn : Fun K "_law_sense" "_law_sense" s__law_sense f fd) (hm : mg "_law_sense" = some (.ref f)) (h__law_parent : FnH P w K mg base (GG.of K cl nm) 3 "_law_parent" ["_law_stones_here", "_law_ends", "_law_x"] F__law_parent) (h__law_side : FnH P w K mg base (GG.of K cl nm) 2 "_law_side" ["_law_stones_here", "_law_x"] F__law_side) : FnH P w K mg base (GG.of K cl nm) 4 "_law_sense" ["_law_stones_here", "_law_ends", "_law_x"] F__law_sense :=
  ⟨f, fd, core__law_sense T Fn h__law_parent h__law_side, hm, Fn.kp, Fn.binds fun _ _ _ _ _ _ us hl => match us, hl with | [_, _, _], _ => rfl⟩
abbrev s__law_right : Stmt := top 56
abbrev t__law_right_1 : MT := mB (mOp [.var 8 pAny, .var 3 pAny] dGe)
abbrev u__law_right_2 : ME := mVar 8
abbrev t__law_right_3 : MT := mB (mOp [.var 8 pAny, .var 7 pAny] (dInA true))
abbrev u__law_right_4 : ME := mVar 8
abbrev b__law_right_5 : MS := mIfS (mOr (mB (mOp [.tmp (mCall [.var 5 pAny, .var 8 pAny] F_sense) pAny, .tmp (mCall [.var 1 pAny, .var 2 pAny, .var 8 pAny] F__law_sense) pAny] dNe)) (mB (mOp [.tmp (mCall [.var 0 pAny, .var 8 pAny] F_sense) pAny, .tmp (mCall [.var 5 pAny, .var 8 pAny] F_sense) pAny] dNe))) (mDo (mC (.bl false)) kRet) (mNext)
def m__law_right : MS := mSeq (mSet 4 (mOp [.tmp (mLc [8] (mI1 (mVar 1) D.seq) (gN 8) (t__law_right_1) (u__law_right_2)) pAny] dTupOf)) (mSeq (mTry sb kn (mSet 5 (mCallP [.var 3 pAny, .var 0 pAny] [] [1, 0] F_high)) [(2, some 9, fun ce we => mDo (mAndV (mOp [.var 4 pAny, .tmp (mOp [] dTup) pAny] dEq) (mOp [.tmp (mC we) pAny, .tmp (mC (.int 0)) pAny] dEq)) kRet)]) (mSeq (mIfS (mB (mOp [.tmp (mOp [.tmp (mOp [.var 5 pAny] (dFld nm "stones")) pAny, .tmp (mOp [.var 5 pAny] (dFld nm "ends")) pAny, .tmp (mOp [.var 5 pAny] (dFld nm "rule")) pAny] dTup) pAny, .tmp (mOp [.var 4 pAny, .var 2 pAny, .tmp (mC .non) pAny] dTup) pAny] dNe)) (mDo (mC (.bl false)) kRet) (mNext)) (mSeq (mDo (mOp [.tmp (mCall [.var 5 pAny] F_heads) pAny, .tmp (mCall [.var 0 pAny] F_heads) pAny] dTup) (kUnp [6, 7])) (mSeq (mIfS (mOr (mB (mOp [.var 6 pAny, .tmp (mOp [.tmp (mCall [.var 4 pAny, .var 2 pAny] F__law_heads) pAny] dTupOf) pAny] dNe)) (mB (mOp [.tmp (mLc [8] (mI1 (mVar 6) D.seq) (gN 8) (t__law_right_3) (u__law_right_4)) pAny, .tmp (mOp [] dLst) pAny] dNe))) (mDo (mC (.bl false)) kRet) (mNext)) (mSeq (mFor (mI1 (mVar 6) D.seq) (gN 8) b__law_right_5) (mDo (mC (.bl true)) kRet))))))
def F__law_right : FV := mDef 10 4 [4, 5, 9, 6, 7, 8] m__law_right
theorem sc__law_right : FnScope ["_law_row_here", "_law_stones_here", "_law_ends", "_law_least", "_law_kept", "_law_told", "_law_some", "_law_known", "_law_x", "refused"] ["_law_row_here", "_law_stones_here", "_law_ends", "_law_least"] (defScope s__law_right) := ⟨rfl, rfl, rfl, by decide +kernel, rfl, by decide +kernel, by decide +kernel⟩
theorem core__law_right {f : Addr} {fd : FuncData} (T : Txt P K (GG.of K cl nm) mg) (Fn : Fun K "_law_right" "_law_right" s__law_right f fd) (h_heads : FnH P w K mg base (GG.of K cl nm) 4 "heads" ["row"] F_heads) (h__law_heads : FnH P w K mg base (GG.of K cl nm) 3 "_law_heads" ["_law_stones_here", "_law_ends"] F__law_heads) (h_sense : FnH P w K mg base (GG.of K cl nm) 5 "sense" ["row", "x"] F_sense) (h__law_sense : FnH P w K mg base (GG.of K cl nm) 4 "_law_sense" ["_law_stones_here", "_law_ends", "_law_x"] F__law_sense) (k_high_0_least_row : FnKw P w K mg base (GG.of K cl nm) 5 "high" ["row", "least"] F_high 0 ["least", "row"] [1, 0] []) : FnOk P w K mg base (L2.CX P w) 6 f fd ["_law_row_here", "_law_stones_here", "_law_ends", "_law_least"] (spV (GG.of K cl nm) 4 F__law_right) := by
  refine Fn.okX sc__law_right (fun vs H Q E h => h.1) (fun cdv A outer s H vs Q E hr h => ?_)
  have c := ct_bodyX (P := P) (w := w) (mg := mg) (base := base) (qual := "_law_right") (f := f) (cd := cdv) (outer := outer) (s := s) (H := H) (E := E) (G := (GG.of K cl nm)) rfl sc__law_right hr
  exact body_ok (X := cxOf (L2.CX P w) P w K mg base ["_law_row_here", "_law_stones_here", "_law_ends", "_law_least", "_law_kept", "_law_told", "_law_some", "_law_known", "_law_x", "refused"] "_law_right" (defScope s__law_right) f cdv A outer s H E) (N := ["_law_row_here", "_law_stones_here", "_law_ends", "_law_least", "_law_kept", "_law_told", "_law_some", "_law_known", "_law_x", "refused"]) (A := [4, 5, 9, 6, 7, 8]) (m := m__law_right) (body := defBody s__law_right) (sss_cons (ss_set c rfl (Or.inl rfl) (se_tupOf c T.n_tuple (so_tmp (se_lc (own := [("_law_x", 8)]) c (si_seq c (se_var (pv 1))) (show BlkOk ["_law_row_here", "_law_stones_here", "_law_ends", "_law_least", "_law_kept", "_law_told", "_law_some", "_law_known", "_law_x", "refused"] (defScope s__law_right) _ _ from ⟨rfl, by decide +kernel, by decide +kernel, by decide +kernel, by decide +kernel⟩) gok_name lenk_name (by decide) (fun _ _ _ _ _ => pg_name c.blk.nd rfl (Or.inl rfl)) (fun _ _ _ _ _ => sts_one (st_ge (so_var (pv 8)) (so_var (pv 3)))) (fun _ _ _ _ _ => se_var (pv 8))))))
    (sss_cons (ss_try (A := [5]) (B := [9]) (l := [(2, some 9, fun ce we => mDo (mAndV (mOp [.var 4 pAny, .tmp (mOp [] dTup) pAny] dEq) (mOp [.tmp (mC we) pAny, .tmp (mC (.int 0)) pAny] dEq)) kRet)]) c rfl rfl (by exact fun cc hc j hj => T.exm cc hc j ((show ∀ j ∈ ([2] : List Nat), j ∈ js by decide) j hj)) (by exact fun _ _ _ c => sss_one (ss_set c rfl (Or.inl rfl) (se_kw0 k_high_0_least_row (fun _ => .nil) rfl rfl (by decide) (by decide) (by decide) c.tk hr (pk_consO (so_var (pv 3)) (pk_consO (so_var (pv 0)) (pk_nilO)))))) (by exact .named ⟨rfl, by decide, .inl T.m_BadSize⟩ rfl rfl (by decide) (fun ea eo ep ce we ed ef ev hz hf hl hk => by (obtain ⟨_, xe⟩ := T.xall ce hk); (have c := CT.suite (oi := some 9) (a := ea) (dd := ed) (fs := ef) (w := we) (v := ev) (oe := eo) (pn := ep) c); exact sss_wide (B := [9]) (by decide) (sss_one (ss_ret (se_and (se_eq c (so_var (pv 4)) (so_tmp (se_tup (so_nil)))) (se_one (se_eq c (so_tmp (se_whatX xe rfl (pv 9) hz hf hl)) (so_tmp (se_int)))))))) (.nil)))
    (sss_cons (ss_if (st_ne c (so_tmp (se_tup (so_cons (so_tmp (se_fld c T.f_stones (so_var (pv 5)))) (so_cons (so_tmp (se_fld c T.f_ends (so_var (pv 5)))) (so_cons (so_tmp (se_fld c T.f_rule (so_var (pv 5)))) (so_nil)))))) (so_tmp (se_tup (so_cons (so_var (pv 4)) (so_cons (so_var (pv 2)) (so_cons (so_tmp (se_non)) (so_nil))))))) (sss_one (ss_ret (se_bl))) (sss_nil))
    (sss_cons (ss_unp c (se_tup (so_cons (so_tmp (se_fn h_heads rfl (by decide) c.tk hr (so_cons (so_var (pv 5)) (so_nil)))) (so_cons (so_tmp (se_fn h_heads rfl (by decide) c.tk hr (so_cons (so_var (pv 0)) (so_nil)))) (so_nil)))) (pgs_cons (pg_name c.nd rfl (Or.inl rfl)) (pgs_cons (pg_name c.nd rfl (Or.inr rfl)) (pgs_nil))))
    (sss_cons (ss_if (st_bool (sw_or (st_ne c (so_var (pv 6)) (so_tmp (se_tupOf c T.n_tuple (so_tmp (se_fn h__law_heads rfl (by decide) c.tk hr (so_cons (so_var (pv 4)) (so_cons (so_var (pv 2)) (so_nil)))))))) (sw_or1 (st_ne c (so_tmp (se_lc (own := [("_law_x", 8)]) c (si_seq c (se_var (pv 6))) (show BlkOk ["_law_row_here", "_law_stones_here", "_law_ends", "_law_least", "_law_kept", "_law_told", "_law_some", "_law_known", "_law_x", "refused"] (defScope s__law_right) _ _ from ⟨rfl, by decide +kernel, by decide +kernel, by decide +kernel, by decide +kernel⟩) gok_name lenk_name (by decide) (fun _ _ _ _ _ => pg_name c.blk.nd rfl (Or.inl rfl)) (fun _ _ _ _ _ => sts_one (st_notInA c.blk (so_var (pv 8)) (so_var (pv 7)))) (fun _ _ _ _ _ => se_var (pv 8)))) (so_tmp (se_lst (so_nil))))))) (sss_one (ss_ret (se_bl))) (sss_nil))
    (sss_cons (ss_for c (si_seq c (se_var (pv 6))) (pg_name c.nd rfl (Or.inl rfl)) gok_name nex_name (sss_one (ss_if (st_bool (sw_or (st_ne c (so_tmp (se_fn h_sense rfl (by decide) c.tk hr (so_cons (so_var (pv 5)) (so_cons (so_var (pv 8)) (so_nil))))) (so_tmp (se_fn h__law_sense rfl (by decide) c.tk hr (so_cons (so_var (pv 1)) (so_cons (so_var (pv 2)) (so_cons (so_var (pv 8)) (so_nil))))))) (sw_or1 (st_ne c (so_tmp (se_fn h_sense rfl (by decide) c.tk hr (so_cons (so_var (pv 0)) (so_cons (so_var (pv 8)) (so_nil))))) (so_tmp (se_fn h_sense rfl (by decide) c.tk hr (so_cons (so_var (pv 5)) (so_cons (so_var (pv 8)) (so_nil))))))))) (sss_one (ss_ret (se_bl))) (sss_nil))))
    (sss_one (ss_ret (se_bl))))))))) h (by decide)
theorem ok__law_right {f : Addr} {fd : FuncData} (T : Txt P K (GG.of K cl nm) mg) (Fn : Fun K "_law_right" "_law_right" s__law_right f fd) (hm : mg "_law_right" = some (.ref f)) (h_heads : FnH P w K mg base (GG.of K cl nm) 4 "heads" ["row"] F_heads) (h__law_heads : FnH P w K mg base (GG.of K cl nm) 3 "_law_heads" ["_law_stones_here", "_law_ends"] F__law_heads) (h_sense : FnH P w K mg base (GG.of K cl nm) 5 "sense" ["row", "x"] F_sense) (h__law_sense : FnH P w K mg base (GG.of K cl nm) 4 "_law_sense" ["_law_stones_here", "_law_ends", "_law_x"] F__law_sense) (k_high_0_least_row : FnKw P w K mg base (GG.of K cl nm) 5 "high" ["row", "least"] F_high 0 ["least", "row"] [1, 0] []) : FnH P w K mg base (GG.of K cl nm) 6 "_law_right" ["_law_row_here", "_law_stones_here", "_law_ends", "_law_least"] F__law_right :=
  ⟨f, fd, core__law_right T Fn h_heads h__law_heads h_sense h__law_sense k_high_0_least_row, hm, Fn.kp, Fn.binds fun _ _ _ _ _ _ us hl => match us, hl with | [_, _, _, _], _ => rfl⟩
abbrev s_law : Stmt := top 57
abbrev u_law_1 : ME := mOp [.tmp (mCall [.var 1 pAny, .var 3 pAny] F__law_one) pAny, .tmp (mCall [.var 1 pAny, .tmp (mOp [.tmp (mC (.int 0)) pAny, .tmp (mC (.int 0)) pAny, .tmp (mC (.int 1)) pAny, .tmp (mOp [.tmp (mC (.int 0)) pAny, .tmp (mC (.int 1)) pAny] dSub) pAny] dLst) pAny] F__law_one) pAny] dAdd
abbrev b_law_2 : MS := mIfS (mNot (mB (mOp [.tmp (mCall [.var 6 pAny, .var 3 pAny, .var 4 pAny, .var 8 pAny] F__law_right) pAny] dTru))) (mDo (mC (.bl false)) kRet) (mNext)
abbrev b_law_3 : MS := mSeq (mDo (mCall [.var 1 pAny, .tmp (mC (.int 1)) pAny, .tmp (mC (.int 9)) pAny] F__law_row) (kUnp [3, 4, 5])) (mSeq (mIfS (mAnd (mB (mOp [.var 2 pAny, .tmp (mC (.int 2)) pAny] dEq)) (mB (mOp [.tmp (mCall [.var 1 pAny, .tmp (mC (.int 10)) pAny] F__law_take) pAny, .tmp (mC (.int 9)) pAny] dEq))) (mDo (mCall [.var 1 pAny, .tmp (mC (.int 40)) pAny, .tmp (mC (.int 40)) pAny] F__law_row) (kUnp [3, 4, 5])) (mNext)) (mSeq (mSet 6 (mOp ([.var 3 pAny] ++ [.var 4 pAny, .var 5 pAny]) (fMake 0 4 ms_Row l_Row [] [0, 1, 2]))) (mSeq (mDo (mLc [9] (mIO [.tmp (mC (.int 3)) pAny] dR1) (gN 9) (mYes) (u_law_1)) (kSet 7)) (mFor (mI1 (mOp [.var 7 pAny, .tmp (mOp [.tmp (mOp [.var 3 pAny] dMinS) pAny, .tmp (mOp [.var 3 pAny] dMaxS) pAny, .tmp (mOp [.tmp (mOp [.var 3 pAny] dMaxS) pAny, .tmp (mC (.int 1)) pAny] dAdd) pAny, .tmp (mOp [.tmp (mC (.int 0)) pAny, .tmp (mOp [.tmp (mC (.int 10)) pAny, .tmp (mC (.int 30)) pAny] dPow) pAny] dSub) pAny, .tmp (mOp [.tmp (mC (.int 10)) pAny, .tmp (mC (.int 30)) pAny] dPow) pAny] dLst) pAny] dAdd) D.seq) (gN 8) b_law_2))))
def m_law : MS := mSeq (mSet 1 (mCall [.var 0 pAny, .tmp (mC (.int 0)) pAny] F__law_pool)) (mSeq (mFor (mIO [.tmp (mC (.int 3)) pAny] dR1) (gN 2) b_law_3) (mDo (mC (.bl true)) kRet))
def F_law : FV := mDef 10 1 [1, 2, 3, 4, 5, 3, 4, 5, 6, 7, 8] m_law
theorem sc_law : FnScope ["_law_script", "_law_source", "_law_turn", "_law_stones_here", "_law_ends", "_law_rule_here", "_law_row_here", "_law_some", "_law_least", "_law_again"] ["_law_script"] (defScope s_law) := ⟨rfl, rfl, rfl, by decide +kernel, rfl, by decide +kernel, by decide +kernel⟩
theorem core_law {f : Addr} {fd : FuncData} (T : Txt P K (GG.of K cl nm) mg) (Fn : Fun K "law" "law" s_law f fd) (h__law_pool : FnH P w K mg base (GG.of K cl nm) 1 "_law_pool" ["_law_script", "_law_k"] F__law_pool) (h__law_row : FnH P w K mg base (GG.of K cl nm) 5 "_law_row" ["_law_source", "_law_least", "_law_most"] F__law_row) (h__law_take : FnH P w K mg base (GG.of K cl nm) 1 "_law_take" ["_law_source", "_law_top"] F__law_take) (h__law_one : FnH P w K mg base (GG.of K cl nm) 2 "_law_one" ["_law_source", "_law_things"] F__law_one) (h__law_right : FnH P w K mg base (GG.of K cl nm) 6 "_law_right" ["_law_row_here", "_law_stones_here", "_law_ends", "_law_least"] F__law_right) (q_Row_1_ends_rule : FnMk P w K mg base (GG.of K cl nm) 3 "Row" 0 4 ["self", "stones", "ends", "rule"] ms_Row l_Row 1 ["ends", "rule"] [0, 1, 2] []) : FnOk P w K mg base CX0 7 f fd ["_law_script"] (spV0 (GG.of K cl nm) 1 F_law) := by
  refine Fn.ok sc_law (fun vs H Q E h => h.1) (fun cdv A outer s H vs Q E hr h => ?_)
  have c0 := ct_body (P := P) (w := w) (mg := mg) (base := base) (qual := "law") (f := f) (cd := cdv) (outer := outer) (s := s) (H := H) (E := E) (G := (GG.of K cl nm)) rfl sc_law hr
  have c : CT _ (GG.of K cl nm) (WD E0) := c0
  exact body_ok (E := E0) (X := (cxOf CX0 P w K mg base ["_law_script", "_law_source", "_law_turn", "_law_stones_here", "_law_ends", "_law_rule_here", "_law_row_here", "_law_some", "_law_least", "_law_again"] "law" (defScope s_law) f cdv A outer s H E).nox) (N := ["_law_script", "_law_source", "_law_turn", "_law_stones_here", "_law_ends", "_law_rule_here", "_law_row_here", "_law_some", "_law_least", "_law_again"]) (A := [1, 2, 3, 4, 5, 3, 4, 5, 6, 7, 8]) (m := m_law) (body := defBody s_law) (sss_cons (ss_set c rfl (Or.inr rfl) (se_fn h__law_pool rfl (by decide) c.tk hr (so_cons (so_var (pv 0)) (so_cons (so_tmp (se_int)) (so_nil)))))
    (sss_cons (ss_for c (si_range1 (by rfl) T.n_range (so_tmp (se_int))) (pg_name c.nd rfl (Or.inl rfl)) gok_name nex_name (sss_cons (ss_unp c (se_fn h__law_row rfl (by decide) c.tk hr (so_cons (so_var (pv 1)) (so_cons (so_tmp (se_int)) (so_cons (so_tmp (se_int)) (so_nil))))) (pgs_cons (pg_name c.nd rfl (Or.inr rfl)) (pgs_cons (pg_name c.nd rfl (Or.inl rfl)) (pgs_cons (pg_name c.nd rfl (Or.inl rfl)) (pgs_nil)))))
    (sss_cons (ss_if (st_bool (sw_and (st_eq c (so_var (pv 2)) (so_tmp (se_int))) (sw_and1 (st_eq c (so_tmp (se_fn h__law_take rfl (by decide) c.tk hr (so_cons (so_var (pv 1)) (so_cons (so_tmp (se_int)) (so_nil))))) (so_tmp (se_int)))))) (sss_one (ss_unp c (se_fn h__law_row rfl (by decide) c.tk hr (so_cons (so_var (pv 1)) (so_cons (so_tmp (se_int)) (so_cons (so_tmp (se_int)) (so_nil))))) (pgs_cons (pg_name c.nd rfl (Or.inr rfl)) (pgs_cons (pg_name c.nd rfl (Or.inl rfl)) (pgs_cons (pg_name c.nd rfl (Or.inl rfl)) (pgs_nil)))))) (sss_nil))
    (sss_cons (ss_set c rfl (Or.inl rfl) (se_mk q_Row_1_ends_rule (fun _ => .nil) rfl rfl rfl (by decide) (by decide) (by decide) rfl (by decide) hr (so_cons (so_var (pv 3)) (so_nil)) (pk_consO (so_var (pv 4)) (pk_consO (so_var (pv 5)) (pk_nilO)))))
    (sss_cons (ss_setLc (own := [("_law_again", 9)]) c rfl rfl rfl (si_range1 (by rfl) T.n_range (so_tmp (se_int))) (show BlkOk ["_law_script", "_law_source", "_law_turn", "_law_stones_here", "_law_ends", "_law_rule_here", "_law_row_here", "_law_some", "_law_least", "_law_again"] (defScope s_law) _ _ from ⟨rfl, by decide +kernel, by decide +kernel, by decide +kernel, by decide +kernel⟩) gok_name lenk_name (by decide) (fun _ _ _ _ _ => pg_name c.blk.nd rfl (Or.inl rfl)) (fun _ _ _ _ _ => sts_nil) (fun _ _ _ _ _ => se_add c.blk (so_tmp (se_fn h__law_one rfl (by decide) c.blk.tk hr (so_cons (so_var (pv 1)) (so_cons (so_var (pv 3)) (so_nil))))) (so_tmp (se_fn h__law_one rfl (by decide) c.blk.tk hr (so_cons (so_var (pv 1)) (so_cons (so_tmp (se_lst (so_cons (so_tmp (se_int)) (so_cons (so_tmp (se_int)) (so_cons (so_tmp (se_int)) (so_cons (so_tmp (se_sub (so_tmp (se_int)) (so_tmp (se_int)))) (so_nil))))))) (so_nil)))))))
    (sss_one (ss_for c (si_seq c (se_add c (so_var (pv 7)) (so_tmp (se_lst (so_cons (so_tmp (se_minS c T.n_min (so_var (pv 3)))) (so_cons (so_tmp (se_maxS c T.n_max (so_var (pv 3)))) (so_cons (so_tmp (se_add c (so_tmp (se_maxS c T.n_max (so_var (pv 3)))) (so_tmp (se_int)))) (so_cons (so_tmp (se_sub (so_tmp (se_int)) (so_tmp (se_pow (so_tmp (se_int)) (so_tmp (se_int)))))) (so_cons (so_tmp (se_pow (so_tmp (se_int)) (so_tmp (se_int)))) (so_nil)))))))))) (pg_name c.nd rfl (Or.inl rfl)) gok_name nex_name (sss_one (ss_if (st_not (st_truth c (so_tmp (se_fn h__law_right rfl (by decide) c.tk hr (so_cons (so_var (pv 6)) (so_cons (so_var (pv 3)) (so_cons (so_var (pv 4)) (so_cons (so_var (pv 8)) (so_nil))))))))) (sss_one (ss_ret (se_bl))) (sss_nil))))))))))
    (sss_one (ss_ret (se_bl))))) h (by decide)
theorem kw_want_stones_1 {f : Addr} {fd : FuncData} (Fn : FnD K "want_stones" "want_stones" s_want_stones [V.int 1] [] f fd) (core : FnOk P w K mg base (L2.CX P w) 2 f fd ["stones", "least"] (spV (GG.of K cl nm) 2 F_want_stones)) (hm : mg "want_stones" = some (.ref f)) : FnKw P w K mg base (GG.of K cl nm) 2 "want_stones" ["stones", "least"] F_want_stones 1 [] [0, 1] [V.int 1] := by
  obtain ⟨dd, kb⟩ := kb_pos (ps := ["stones", "least"]) Fn 1 [] [0, 1] (by decide) fun T kV doc pm an cdv ct us its ws h1 h2 h3 => match us, its, ws, h1, h2, h3 with | [_], [_], [], _, _, _ => ⟨_, rfl, rfl⟩
  exact ⟨f, fd, dd, core, hm, Fn.kp, kb⟩
theorem kw_high_0_least_row {f : Addr} {fd : FuncData} (Fn : Fun K "high" "high" s_high f fd) (core : FnOk P w K mg base (L2.CX P w) 5 f fd ["row", "least"] (spV (GG.of K cl nm) 2 F_high)) (hm : mg "high" = some (.ref f)) : FnKw P w K mg base (GG.of K cl nm) 5 "high" ["row", "least"] F_high 0 ["least", "row"] [1, 0] [] :=
  ⟨f, fd, ⟨[], core, hm, Fn.kp, kb_plain Fn 0 ["least", "row"] [1, 0] fun _ _ _ _ _ _ us ws h1 h2 => match us, ws, h1, h2 with | [], [_, _], _, _ => rfl⟩⟩
theorem mk_Row_1_ends {f : Addr} {fd : FuncData} (Fn : FnD K "__init__" "Row.__init__" s_init_Row [] [("ends", V.int 0), ("rule", V.non)] f fd) (core : FnOk P w K mg base CX0 3 f fd ["self", "stones", "ends", "rule"] (spI (GG.of K cl nm) 0 4 4 ms_Row l_Row)) (M : Mk K (cl 0) f) (hm : mg "Row" = some (.ref (cl 0))) :
    FnMk P w K mg base (GG.of K cl nm) 3 "Row" 0 4 ["self", "stones", "ends", "rule"] ms_Row l_Row 1 ["ends"] [0, 1, 2] [V.non] := by
  obtain ⟨dd, kb⟩ := kb_kw (ps := ["self", "stones", "ends", "rule"]) Fn 2 ["ends"] ([("rule", V.non)] : List (Str × V)) [0, 1, 2, 3] (by decide) (by decide) fun D doc pm an cdv ct us mv ws h1 h2 h3 => match us, mv, ws, h1, h2, h3 with | [_, _], [_], [_], _, _, _ => ⟨_, _, _, _, _, _, rfl, rfl, rfl⟩
  exact ⟨f, fd, dd, M, core, hm, kb⟩
theorem mk_Row_1_ends_rule {f : Addr} {fd : FuncData} (Fn : FnD K "__init__" "Row.__init__" s_init_Row [] [("ends", V.int 0), ("rule", V.non)] f fd) (core : FnOk P w K mg base CX0 3 f fd ["self", "stones", "ends", "rule"] (spI (GG.of K cl nm) 0 4 4 ms_Row l_Row)) (M : Mk K (cl 0) f) (hm : mg "Row" = some (.ref (cl 0))) :
    FnMk P w K mg base (GG.of K cl nm) 3 "Row" 0 4 ["self", "stones", "ends", "rule"] ms_Row l_Row 1 ["ends", "rule"] [0, 1, 2] [] := by
  obtain ⟨dd, kb⟩ := kb_kw (ps := ["self", "stones", "ends", "rule"]) Fn 2 ["ends", "rule"] ([] : List (Str × V)) [0, 1, 2, 3] (by decide) (by decide) fun D doc pm an cdv ct us mv ws h1 h2 h3 => match us, mv, ws, h1, h2, h3 with | [_, _], [], [_, _], _, _, _ => rfl
  exact ⟨f, fd, dd, M, core, hm, kb⟩
end
end K58

namespace K58
open PySem PySem.Spec PyProof.Rows L2 TV PySem.RFX
theorem all_mk {l : PySem.W.OpenLaw} {w : World} {K : PySem.W.Frag} {h : Heap} {mg : Str → Option Value} {fa : Addr} (X : K.In h) (G : h.Ns mainGlobals mg) (hfa : mg "law" = some (.ref fa))
    {t_BOTH_WALLS : Tok} {t_LEAST_LENGTH : Tok} {t_LEAST_LOT : Tok} {t_MOST_STONES : Tok} {t_OPEN : Tok} {t_STONE_LIMIT : Tok} {t_WALL : Tok} {t_WALL_AHEAD : Tok} {t_WALL_BEHIND : Tok} {C_Row : Addr} {fI cda cc : Addr} {r_oc r_kV r_doc r_pm r_ct r_cl r_ccl : Value} {r_od r_an r_cld r_cdd : Option Addr} {r_osl r_csl r_ccs : Array (Option Value)} {r_vs : Array Value} {r_file : Str} {r_tf : Tok} {C_Refused : Addr} {x_Refused_nm x_Refused_q : Str} {x_Refused_N : Addr} {x_Refused_bs : List Value} {x_Refused_sn : List Str} {x_Refused_sub : List Value} {x_Refused_ab : Bool} {x_Refused_col : Option Bool} {x_Refused_dd : Option Addr} {x_Refused_k0 x_Refused_k1 x_Refused_k2 x_Refused_k3 x_Refused_k5 : Option Value} {C_BadSize : Addr} {x_BadSize_nm x_BadSize_q : Str} {x_BadSize_N : Addr} {x_BadSize_bs : List Value} {x_BadSize_sn : List Str} {x_BadSize_sub : List Value} {x_BadSize_ab : Bool} {x_BadSize_col : Option Bool} {x_BadSize_dd : Option Addr} {x_BadSize_k0 x_BadSize_k1 x_BadSize_k2 x_BadSize_k3 x_BadSize_k5 : Option Value} {f__law_pool : Addr} {od__law_pool an__law_pool : Option Addr} {sl__law_pool : Array (Option Value)} {oc__law_pool dc__law_pool pm__law_pool cd__law_pool ct__law_pool : Value} {kV__law_pool : Value} {f__law_take : Addr} {od__law_take an__law_take : Option Addr} {sl__law_take : Array (Option Value)} {oc__law_take dc__law_take pm__law_take cd__law_take ct__law_take : Value} {kV__law_take : Value} {f__law_one : Addr} {od__law_one an__law_one : Option Addr} {sl__law_one : Array (Option Value)} {oc__law_one dc__law_one pm__law_one cd__law_one ct__law_one : Value} {kV__law_one : Value} {f__law_shuffled : Addr} {od__law_shuffled an__law_shuffled : Option Addr} {sl__law_shuffled : Array (Option Value)} {oc__law_shuffled dc__law_shuffled pm__law_shuffled cd__law_shuffled ct__law_shuffled : Value} {kV__law_shuffled : Value} {f__law_stones : Addr} {od__law_stones an__law_stones : Option Addr} {sl__law_stones : Array (Option Value)} {oc__law_stones dc__law_stones pm__law_stones cd__law_stones ct__law_stones : Value} {kV__law_stones : Value} {f__law_span : Addr} {od__law_span an__law_span : Option Addr} {sl__law_span : Array (Option Value)} {oc__law_span dc__law_span pm__law_span cd__law_span ct__law_span : Value} {kV__law_span : Value} {f__law_length : Addr} {od__law_length an__law_length : Option Addr} {sl__law_length : Array (Option Value)} {oc__law_length dc__law_length pm__law_length cd__law_length ct__law_length : Value} {kV__law_length : Value} {f__law_closers : Addr} {od__law_closers an__law_closers : Option Addr} {sl__law_closers : Array (Option Value)} {oc__law_closers dc__law_closers pm__law_closers cd__law_closers ct__law_closers : Value} {kV__law_closers : Value} {f__law_heads : Addr} {od__law_heads an__law_heads : Option Addr} {sl__law_heads : Array (Option Value)} {oc__law_heads dc__law_heads pm__law_heads cd__law_heads ct__law_heads : Value} {kV__law_heads : Value} {f__law_rule : Addr} {od__law_rule an__law_rule : Option Addr} {sl__law_rule : Array (Option Value)} {oc__law_rule dc__law_rule pm__law_rule cd__law_rule ct__law_rule : Value} {kV__law_rule : Value} {f__law_row : Addr} {od__law_row an__law_row : Option Addr} {sl__law_row : Array (Option Value)} {oc__law_row dc__law_row pm__law_row cd__law_row ct__law_row : Value} {kV__law_row : Value} {f_is_stone : Addr} {od_is_stone an_is_stone : Option Addr} {sl_is_stone : Array (Option Value)} {oc_is_stone dc_is_stone pm_is_stone cd_is_stone ct_is_stone : Value} {kV_is_stone : Value} {f_want_stones : Addr} {od_want_stones an_want_stones : Option Addr} {sl_want_stones : Array (Option Value)} {oc_want_stones dc_want_stones pm_want_stones cd_want_stones ct_want_stones : Value} {T_want_stones : Addr} {kV_want_stones : Value} {tc_want_stones : Value} {td_want_stones : Option Addr} {tn_want_stones : Nat} {ts_want_stones : Array (Option Value)} {u_want_stones_0 : Tok} {f_want_ends : Addr} {od_want_ends an_want_ends : Option Addr} {sl_want_ends : Array (Option Value)} {oc_want_ends dc_want_ends pm_want_ends cd_want_ends ct_want_ends : Value} {kV_want_ends : Value} {f_want_rule : Addr} {od_want_rule an_want_rule : Option Addr} {sl_want_rule : Array (Option Value)} {oc_want_rule dc_want_rule pm_want_rule cd_want_rule ct_want_rule : Value} {kV_want_rule : Value} {f_Row : Addr} {od_Row an_Row : Option Addr} {sl_Row : Array (Option Value)} {oc_Row dc_Row pm_Row cd_Row ct_Row : Value} {D_Row : Addr} {w_Row_ends : Tok} {f_high : Addr} {od_high an_high : Option Addr} {sl_high : Array (Option Value)} {oc_high dc_high pm_high cd_high ct_high : Value} {kV_high : Value} {f_span : Addr} {od_span an_span : Option Addr} {sl_span : Array (Option Value)} {oc_span dc_span pm_span cd_span ct_span : Value} {kV_span : Value} {f_length_of : Addr} {od_length_of an_length_of : Option Addr} {sl_length_of : Array (Option Value)} {oc_length_of dc_length_of pm_length_of cd_length_of ct_length_of : Value} {kV_length_of : Value} {f_beside : Addr} {od_beside an_beside : Option Addr} {sl_beside : Array (Option Value)} {oc_beside dc_beside pm_beside cd_beside ct_beside : Value} {kV_beside : Value} {f_has_flag : Addr} {od_has_flag an_has_flag : Option Addr} {sl_has_flag : Array (Option Value)} {oc_has_flag dc_has_flag pm_has_flag cd_has_flag ct_has_flag : Value} {kV_has_flag : Value} {f_is_head : Addr} {od_is_head an_is_head : Option Addr} {sl_is_head : Array (Option Value)} {oc_is_head dc_is_head pm_is_head cd_is_head ct_is_head : Value} {kV_is_head : Value} {f_heads : Addr} {od_heads an_heads : Option Addr} {sl_heads : Array (Option Value)} {oc_heads dc_heads pm_heads cd_heads ct_heads : Value} {kV_heads : Value} {f_want_stone : Addr} {od_want_stone an_want_stone : Option Addr} {sl_want_stone : Array (Option Value)} {oc_want_stone dc_want_stone pm_want_stone cd_want_stone ct_want_stone : Value} {kV_want_stone : Value} {f_Row_place : Addr} {od_Row_place an_Row_place : Option Addr} {sl_Row_place : Array (Option Value)} {oc_Row_place dc_Row_place pm_Row_place cd_Row_place ct_Row_place : Value} {kV_Row_place : Value} {f_is_ahead : Addr} {od_is_ahead an_is_ahead : Option Addr} {sl_is_ahead : Array (Option Value)} {oc_is_ahead dc_is_ahead pm_is_ahead cd_is_ahead ct_is_ahead : Value} {kV_is_ahead : Value} {f_greatest : Addr} {od_greatest an_greatest : Option Addr} {sl_greatest : Array (Option Value)} {oc_greatest dc_greatest pm_greatest cd_greatest ct_greatest : Value} {kV_greatest : Value} {f_lower : Addr} {od_lower an_lower : Option Addr} {sl_lower : Array (Option Value)} {oc_lower dc_lower pm_lower cd_lower ct_lower : Value} {kV_lower : Value} {f_greater_child : Addr} {od_greater_child an_greater_child : Option Addr} {sl_greater_child : Array (Option Value)} {oc_greater_child dc_greater_child pm_greater_child cd_greater_child ct_greater_child : Value} {kV_greater_child : Value} {f_upper : Addr} {od_upper an_upper : Option Addr} {sl_upper : Array (Option Value)} {oc_upper dc_upper pm_upper cd_upper ct_upper : Value} {kV_upper : Value} {f_sense_of : Addr} {od_sense_of an_sense_of : Option Addr} {sl_sense_of : Array (Option Value)} {oc_sense_of dc_sense_of pm_sense_of cd_sense_of ct_sense_of : Value} {kV_sense_of : Value} {f_sense : Addr} {od_sense an_sense : Option Addr} {sl_sense : Array (Option Value)} {oc_sense dc_sense pm_sense cd_sense ct_sense : Value} {kV_sense : Value} {f__law_parent : Addr} {od__law_parent an__law_parent : Option Addr} {sl__law_parent : Array (Option Value)} {oc__law_parent dc__law_parent pm__law_parent cd__law_parent ct__law_parent : Value} {kV__law_parent : Value} {f__law_side : Addr} {od__law_side an__law_side : Option Addr} {sl__law_side : Array (Option Value)} {oc__law_side dc__law_side pm__law_side cd__law_side ct__law_side : Value} {kV__law_side : Value} {f__law_sense : Addr} {od__law_sense an__law_sense : Option Addr} {sl__law_sense : Array (Option Value)} {oc__law_sense dc__law_sense pm__law_sense cd__law_sense ct__law_sense : Value} {kV__law_sense : Value} {f__law_right : Addr} {od__law_right an__law_right : Option Addr} {sl__law_right : Array (Option Value)} {oc__law_right dc__law_right pm__law_right cd__law_right ct__law_right : Value} {kV__law_right : Value} {f_law : Addr} {od_law an_law : Option Addr} {sl_law : Array (Option Value)} {oc_law dc_law pm_law cd_law ct_law : Value} {kV_law : Value}
    (n_abs : PySem.W.nsIn K mainGlobals "abs" = some none) (n_dict : PySem.W.nsIn K mainGlobals "dict" = some none) (n_enumerate : PySem.W.nsIn K mainGlobals "enumerate" = some none) (n_int : PySem.W.nsIn K mainGlobals "int" = some none) (n_len : PySem.W.nsIn K mainGlobals "len" = some none) (n_list : PySem.W.nsIn K mainGlobals "list" = some none) (n_max : PySem.W.nsIn K mainGlobals "max" = some none) (n_min : PySem.W.nsIn K mainGlobals "min" = some none) (n_range : PySem.W.nsIn K mainGlobals "range" = some none) (n_sorted : PySem.W.nsIn K mainGlobals "sorted" = some none) (n_tuple : PySem.W.nsIn K mainGlobals "tuple" = some none) (c_BOTH_WALLS : PySem.W.nsIn K mainGlobals "BOTH_WALLS" = some (some (.int (3) t_BOTH_WALLS))) (c_LEAST_LENGTH : PySem.W.nsIn K mainGlobals "LEAST_LENGTH" = some (some (.int (2) t_LEAST_LENGTH))) (c_LEAST_LOT : PySem.W.nsIn K mainGlobals "LEAST_LOT" = some (some (.int (2) t_LEAST_LOT))) (c_MOST_STONES : PySem.W.nsIn K mainGlobals "MOST_STONES" = some (some (.int (40) t_MOST_STONES))) (c_OPEN : PySem.W.nsIn K mainGlobals "OPEN" = some (some (.str "open" t_OPEN))) (c_STONE_LIMIT : PySem.W.nsIn K mainGlobals "STONE_LIMIT" = some (some (.int (1000000000000000) t_STONE_LIMIT))) (c_WALL : PySem.W.nsIn K mainGlobals "WALL" = some (some (.str "wall" t_WALL))) (c_WALL_AHEAD : PySem.W.nsIn K mainGlobals "WALL_AHEAD" = some (some (.int (1) t_WALL_AHEAD))) (c_WALL_BEHIND : PySem.W.nsIn K mainGlobals "WALL_BEHIND" = some (some (.int (2) t_WALL_BEHIND))) (aC_Row : PySem.W.nsIn K mainGlobals "Row" = some (some (.ref C_Row))) (pg_Row : PySem.W.plainGet K C_Row Str.empty = true) (hd_Row : PySem.W.hasDictIn K C_Row = true) (po_Row : PySem.W.plainOver K C_Row = true) (sa_Row : PySem.W.findIn K (.ref C_Row) "__setattr__" = some (some (.builtin "object.__setattr__"))) (mk_Row : PySem.W.makesIn K C_Row = true) (kc_Row : PySem.W.keepIn K (.ref C_Row) = true) (na_Row_ends : PySem.W.findIn K (.ref C_Row) "ends" = some none) (na_Row_rule : PySem.W.findIn K (.ref C_Row) "rule" = some none) (na_Row_stones : PySem.W.findIn K (.ref C_Row) "stones" = some none) (aC_Refused : PySem.W.nsIn K mainGlobals "Refused" = some (some (.ref C_Refused))) (aC_BadSize : PySem.W.nsIn K mainGlobals "BadSize" = some (some (.ref C_BadSize))) (xL_Refused : K.lookup C_Refused = some (excClassObj x_Refused_nm x_Refused_q C_Refused x_Refused_N x_Refused_bs HandSPX.veTail true x_Refused_sn x_Refused_sub x_Refused_ab x_Refused_col x_Refused_dd x_Refused_k0 x_Refused_k1 x_Refused_k2 x_Refused_k3 x_Refused_k5 "ValueError.__new__")) (xsa_Refused : PySem.W.findIn K (.ref C_Refused) "__setattr__" = some (some (.builtin "object.__setattr__"))) (xga_Refused : PySem.W.findIn K (.ref C_Refused) "__getattribute__" = some (some (.builtin "BaseException.__getattribute__"))) (xgg_Refused : PySem.W.findIn K (.ref C_Refused) "__getattr__" = some none) (xnb_Refused : PySem.W.findIn K (.ref C_Refused) "what" = some none) (xin_Refused : PySem.W.findIn K (.ref C_Refused) "__init__" = some (some (.ref fI))) (xkc_Refused : PySem.W.keepIn K (.ref C_Refused) = true) (xL_BadSize : K.lookup C_BadSize = some (excClassObj x_BadSize_nm x_BadSize_q C_BadSize x_BadSize_N x_BadSize_bs (.ref C_Refused :: HandSPX.veTail) true x_BadSize_sn x_BadSize_sub x_BadSize_ab x_BadSize_col x_BadSize_dd x_BadSize_k0 x_BadSize_k1 x_BadSize_k2 x_BadSize_k3 x_BadSize_k5 "ValueError.__new__")) (xsa_BadSize : PySem.W.findIn K (.ref C_BadSize) "__setattr__" = some (some (.builtin "object.__setattr__"))) (xga_BadSize : PySem.W.findIn K (.ref C_BadSize) "__getattribute__" = some (some (.builtin "BaseException.__getattribute__"))) (xgg_BadSize : PySem.W.findIn K (.ref C_BadSize) "__getattr__" = some none) (xnb_BadSize : PySem.W.findIn K (.ref C_BadSize) "what" = some none) (xin_BadSize : PySem.W.findIn K (.ref C_BadSize) "__init__" = some (some (.ref fI))) (xkc_BadSize : PySem.W.keepIn K (.ref C_BadSize) = true) (xne_BadSize : C_BadSize ≠ C_Refused) (r_t : PySem.W.typeIn K (.ref fI) = some (.type "function")) (r_l : K.lookup fI = some ⟨r_oc, r_od, .func (PySem.W.ksFn "__init__" "Refused.__init__" iA iB iS .none r_kV r_doc r_pm r_an (.ref cda) r_ct cc), r_osl⟩) (r_c : PySem.W.codeIn K (.ref cda) "Refused.__init__" = true) (r_lc : K.lookup cda = some ⟨r_ccl, r_cdd, .fields r_vs, r_ccs⟩) (r_f : r_vs[2]? = some (.str r_file r_tf)) (r_pf : ((l.prog.main.file : Str) == r_file) = true) (r_cell : K.lookup cc = some ⟨r_cl, r_cld, .cell (some (.ref C_Refused)), r_csl⟩) (r_sup : PySem.W.nsIn K mainGlobals "super" = some none) (r_opq : PySem.W.nsIn K cStatics "thirdparty.any" = some none) (r_top : (l.prog.main.scope.names.lookup ("super" : Str)).isSome = false) (xs_BadSize_BadSize : PySem.W.subIn K (.ref C_BadSize) (.ref C_BadSize) = some true) (a__law_pool : PySem.W.nsIn K mainGlobals "_law_pool" = some (some (.ref f__law_pool))) (l__law_pool : K.lookup f__law_pool = some ⟨oc__law_pool, od__law_pool, .func (PySem.W.fnOf "_law_pool" "_law_pool" (defArgs s__law_pool) (defBody s__law_pool) (defScope s__law_pool) .none kV__law_pool dc__law_pool pm__law_pool an__law_pool cd__law_pool ct__law_pool), sl__law_pool⟩) (d__law_pool : PySem.W.codeIn K cd__law_pool "_law_pool" = true) (e__law_pool : PySem.W.keepIn K (.ref f__law_pool) = true) (a__law_take : PySem.W.nsIn K mainGlobals "_law_take" = some (some (.ref f__law_take))) (l__law_take : K.lookup f__law_take = some ⟨oc__law_take, od__law_take, .func (PySem.W.fnOf "_law_take" "_law_take" (defArgs s__law_take) (defBody s__law_take) (defScope s__law_take) .none kV__law_take dc__law_take pm__law_take an__law_take cd__law_take ct__law_take), sl__law_take⟩) (d__law_take : PySem.W.codeIn K cd__law_take "_law_take" = true) (e__law_take : PySem.W.keepIn K (.ref f__law_take) = true) (a__law_one : PySem.W.nsIn K mainGlobals "_law_one" = some (some (.ref f__law_one))) (l__law_one : K.lookup f__law_one = some ⟨oc__law_one, od__law_one, .func (PySem.W.fnOf "_law_one" "_law_one" (defArgs s__law_one) (defBody s__law_one) (defScope s__law_one) .none kV__law_one dc__law_one pm__law_one an__law_one cd__law_one ct__law_one), sl__law_one⟩) (d__law_one : PySem.W.codeIn K cd__law_one "_law_one" = true) (e__law_one : PySem.W.keepIn K (.ref f__law_one) = true) (a__law_shuffled : PySem.W.nsIn K mainGlobals "_law_shuffled" = some (some (.ref f__law_shuffled))) (l__law_shuffled : K.lookup f__law_shuffled = some ⟨oc__law_shuffled, od__law_shuffled, .func (PySem.W.fnOf "_law_shuffled" "_law_shuffled" (defArgs s__law_shuffled) (defBody s__law_shuffled) (defScope s__law_shuffled) .none kV__law_shuffled dc__law_shuffled pm__law_shuffled an__law_shuffled cd__law_shuffled ct__law_shuffled), sl__law_shuffled⟩) (d__law_shuffled : PySem.W.codeIn K cd__law_shuffled "_law_shuffled" = true) (e__law_shuffled : PySem.W.keepIn K (.ref f__law_shuffled) = true) (a__law_stones : PySem.W.nsIn K mainGlobals "_law_stones" = some (some (.ref f__law_stones))) (l__law_stones : K.lookup f__law_stones = some ⟨oc__law_stones, od__law_stones, .func (PySem.W.fnOf "_law_stones" "_law_stones" (defArgs s__law_stones) (defBody s__law_stones) (defScope s__law_stones) .none kV__law_stones dc__law_stones pm__law_stones an__law_stones cd__law_stones ct__law_stones), sl__law_stones⟩) (d__law_stones : PySem.W.codeIn K cd__law_stones "_law_stones" = true) (e__law_stones : PySem.W.keepIn K (.ref f__law_stones) = true) (a__law_span : PySem.W.nsIn K mainGlobals "_law_span" = some (some (.ref f__law_span))) (l__law_span : K.lookup f__law_span = some ⟨oc__law_span, od__law_span, .func (PySem.W.fnOf "_law_span" "_law_span" (defArgs s__law_span) (defBody s__law_span) (defScope s__law_span) .none kV__law_span dc__law_span pm__law_span an__law_span cd__law_span ct__law_span), sl__law_span⟩) (d__law_span : PySem.W.codeIn K cd__law_span "_law_span" = true) (e__law_span : PySem.W.keepIn K (.ref f__law_span) = true) (a__law_length : PySem.W.nsIn K mainGlobals "_law_length" = some (some (.ref f__law_length))) (l__law_length : K.lookup f__law_length = some ⟨oc__law_length, od__law_length, .func (PySem.W.fnOf "_law_length" "_law_length" (defArgs s__law_length) (defBody s__law_length) (defScope s__law_length) .none kV__law_length dc__law_length pm__law_length an__law_length cd__law_length ct__law_length), sl__law_length⟩) (d__law_length : PySem.W.codeIn K cd__law_length "_law_length" = true) (e__law_length : PySem.W.keepIn K (.ref f__law_length) = true) (a__law_closers : PySem.W.nsIn K mainGlobals "_law_closers" = some (some (.ref f__law_closers))) (l__law_closers : K.lookup f__law_closers = some ⟨oc__law_closers, od__law_closers, .func (PySem.W.fnOf "_law_closers" "_law_closers" (defArgs s__law_closers) (defBody s__law_closers) (defScope s__law_closers) .none kV__law_closers dc__law_closers pm__law_closers an__law_closers cd__law_closers ct__law_closers), sl__law_closers⟩) (d__law_closers : PySem.W.codeIn K cd__law_closers "_law_closers" = true) (e__law_closers : PySem.W.keepIn K (.ref f__law_closers) = true) (a__law_heads : PySem.W.nsIn K mainGlobals "_law_heads" = some (some (.ref f__law_heads))) (l__law_heads : K.lookup f__law_heads = some ⟨oc__law_heads, od__law_heads, .func (PySem.W.fnOf "_law_heads" "_law_heads" (defArgs s__law_heads) (defBody s__law_heads) (defScope s__law_heads) .none kV__law_heads dc__law_heads pm__law_heads an__law_heads cd__law_heads ct__law_heads), sl__law_heads⟩) (d__law_heads : PySem.W.codeIn K cd__law_heads "_law_heads" = true) (e__law_heads : PySem.W.keepIn K (.ref f__law_heads) = true) (a__law_rule : PySem.W.nsIn K mainGlobals "_law_rule" = some (some (.ref f__law_rule))) (l__law_rule : K.lookup f__law_rule = some ⟨oc__law_rule, od__law_rule, .func (PySem.W.fnOf "_law_rule" "_law_rule" (defArgs s__law_rule) (defBody s__law_rule) (defScope s__law_rule) .none kV__law_rule dc__law_rule pm__law_rule an__law_rule cd__law_rule ct__law_rule), sl__law_rule⟩) (d__law_rule : PySem.W.codeIn K cd__law_rule "_law_rule" = true) (e__law_rule : PySem.W.keepIn K (.ref f__law_rule) = true) (a__law_row : PySem.W.nsIn K mainGlobals "_law_row" = some (some (.ref f__law_row))) (l__law_row : K.lookup f__law_row = some ⟨oc__law_row, od__law_row, .func (PySem.W.fnOf "_law_row" "_law_row" (defArgs s__law_row) (defBody s__law_row) (defScope s__law_row) .none kV__law_row dc__law_row pm__law_row an__law_row cd__law_row ct__law_row), sl__law_row⟩) (d__law_row : PySem.W.codeIn K cd__law_row "_law_row" = true) (e__law_row : PySem.W.keepIn K (.ref f__law_row) = true) (a_is_stone : PySem.W.nsIn K mainGlobals "is_stone" = some (some (.ref f_is_stone))) (l_is_stone : K.lookup f_is_stone = some ⟨oc_is_stone, od_is_stone, .func (PySem.W.fnOf "is_stone" "is_stone" (defArgs s_is_stone) (defBody s_is_stone) (defScope s_is_stone) .none kV_is_stone dc_is_stone pm_is_stone an_is_stone cd_is_stone ct_is_stone), sl_is_stone⟩) (d_is_stone : PySem.W.codeIn K cd_is_stone "is_stone" = true) (e_is_stone : PySem.W.keepIn K (.ref f_is_stone) = true) (a_want_stones : PySem.W.nsIn K mainGlobals "want_stones" = some (some (.ref f_want_stones))) (l_want_stones : K.lookup f_want_stones = some ⟨oc_want_stones, od_want_stones, .func (PySem.W.fnOf "want_stones" "want_stones" (defArgs s_want_stones) (defBody s_want_stones) (defScope s_want_stones) (.ref T_want_stones) kV_want_stones dc_want_stones pm_want_stones an_want_stones cd_want_stones ct_want_stones), sl_want_stones⟩) (d_want_stones : PySem.W.codeIn K cd_want_stones "want_stones" = true) (e_want_stones : PySem.W.keepIn K (.ref f_want_stones) = true) (t_want_stones : K.lookup T_want_stones = some ⟨tc_want_stones, td_want_stones, .seq #[.int 1 u_want_stones_0] tn_want_stones, ts_want_stones⟩) (a_want_ends : PySem.W.nsIn K mainGlobals "want_ends" = some (some (.ref f_want_ends))) (l_want_ends : K.lookup f_want_ends = some ⟨oc_want_ends, od_want_ends, .func (PySem.W.fnOf "want_ends" "want_ends" (defArgs s_want_ends) (defBody s_want_ends) (defScope s_want_ends) .none kV_want_ends dc_want_ends pm_want_ends an_want_ends cd_want_ends ct_want_ends), sl_want_ends⟩) (d_want_ends : PySem.W.codeIn K cd_want_ends "want_ends" = true) (e_want_ends : PySem.W.keepIn K (.ref f_want_ends) = true) (a_want_rule : PySem.W.nsIn K mainGlobals "want_rule" = some (some (.ref f_want_rule))) (l_want_rule : K.lookup f_want_rule = some ⟨oc_want_rule, od_want_rule, .func (PySem.W.fnOf "want_rule" "want_rule" (defArgs s_want_rule) (defBody s_want_rule) (defScope s_want_rule) .none kV_want_rule dc_want_rule pm_want_rule an_want_rule cd_want_rule ct_want_rule), sl_want_rule⟩) (d_want_rule : PySem.W.codeIn K cd_want_rule "want_rule" = true) (e_want_rule : PySem.W.keepIn K (.ref f_want_rule) = true) (a_Row : PySem.W.findIn K (.ref C_Row) "__init__" = some (some (.ref f_Row))) (i_Row : PySem.W.isFn K (.ref f_Row) = true) (l_Row : K.lookup f_Row = some ⟨oc_Row, od_Row, .func (PySem.W.fnOf "__init__" "Row.__init__" (defArgs s_init_Row) (defBody s_init_Row) (defScope s_init_Row) .none (.ref D_Row) dc_Row pm_Row an_Row cd_Row ct_Row), sl_Row⟩) (d_Row : PySem.W.codeIn K cd_Row "Row.__init__" = true) (e_Row : PySem.W.keepIn K (.ref f_Row) = true) (w_Row_ends_ : PySem.W.nsIn K D_Row "ends" = some (some (.int 0 w_Row_ends))) (w_Row_rule_ : PySem.W.nsIn K D_Row "rule" = some (some (.none))) (a_high : PySem.W.nsIn K mainGlobals "high" = some (some (.ref f_high))) (l_high : K.lookup f_high = some ⟨oc_high, od_high, .func (PySem.W.fnOf "high" "high" (defArgs s_high) (defBody s_high) (defScope s_high) .none kV_high dc_high pm_high an_high cd_high ct_high), sl_high⟩) (d_high : PySem.W.codeIn K cd_high "high" = true) (e_high : PySem.W.keepIn K (.ref f_high) = true) (a_span : PySem.W.nsIn K mainGlobals "span" = some (some (.ref f_span))) (l_span : K.lookup f_span = some ⟨oc_span, od_span, .func (PySem.W.fnOf "span" "span" (defArgs s_span) (defBody s_span) (defScope s_span) .none kV_span dc_span pm_span an_span cd_span ct_span), sl_span⟩) (d_span : PySem.W.codeIn K cd_span "span" = true) (e_span : PySem.W.keepIn K (.ref f_span) = true) (a_length_of : PySem.W.nsIn K mainGlobals "length_of" = some (some (.ref f_length_of))) (l_length_of : K.lookup f_length_of = some ⟨oc_length_of, od_length_of, .func (PySem.W.fnOf "length_of" "length_of" (defArgs s_length_of) (defBody s_length_of) (defScope s_length_of) .none kV_length_of dc_length_of pm_length_of an_length_of cd_length_of ct_length_of), sl_length_of⟩) (d_length_of : PySem.W.codeIn K cd_length_of "length_of" = true) (e_length_of : PySem.W.keepIn K (.ref f_length_of) = true) (a_beside : PySem.W.nsIn K mainGlobals "beside" = some (some (.ref f_beside))) (l_beside : K.lookup f_beside = some ⟨oc_beside, od_beside, .func (PySem.W.fnOf "beside" "beside" (defArgs s_beside) (defBody s_beside) (defScope s_beside) .none kV_beside dc_beside pm_beside an_beside cd_beside ct_beside), sl_beside⟩) (d_beside : PySem.W.codeIn K cd_beside "beside" = true) (e_beside : PySem.W.keepIn K (.ref f_beside) = true) (a_has_flag : PySem.W.nsIn K mainGlobals "has_flag" = some (some (.ref f_has_flag))) (l_has_flag : K.lookup f_has_flag = some ⟨oc_has_flag, od_has_flag, .func (PySem.W.fnOf "has_flag" "has_flag" (defArgs s_has_flag) (defBody s_has_flag) (defScope s_has_flag) .none kV_has_flag dc_has_flag pm_has_flag an_has_flag cd_has_flag ct_has_flag), sl_has_flag⟩) (d_has_flag : PySem.W.codeIn K cd_has_flag "has_flag" = true) (e_has_flag : PySem.W.keepIn K (.ref f_has_flag) = true) (a_is_head : PySem.W.nsIn K mainGlobals "is_head" = some (some (.ref f_is_head))) (l_is_head : K.lookup f_is_head = some ⟨oc_is_head, od_is_head, .func (PySem.W.fnOf "is_head" "is_head" (defArgs s_is_head) (defBody s_is_head) (defScope s_is_head) .none kV_is_head dc_is_head pm_is_head an_is_head cd_is_head ct_is_head), sl_is_head⟩) (d_is_head : PySem.W.codeIn K cd_is_head "is_head" = true) (e_is_head : PySem.W.keepIn K (.ref f_is_head) = true) (a_heads : PySem.W.nsIn K mainGlobals "heads" = some (some (.ref f_heads))) (l_heads : K.lookup f_heads = some ⟨oc_heads, od_heads, .func (PySem.W.fnOf "heads" "heads" (defArgs s_heads) (defBody s_heads) (defScope s_heads) .none kV_heads dc_heads pm_heads an_heads cd_heads ct_heads), sl_heads⟩) (d_heads : PySem.W.codeIn K cd_heads "heads" = true) (e_heads : PySem.W.keepIn K (.ref f_heads) = true) (a_want_stone : PySem.W.nsIn K mainGlobals "want_stone" = some (some (.ref f_want_stone))) (l_want_stone : K.lookup f_want_stone = some ⟨oc_want_stone, od_want_stone, .func (PySem.W.fnOf "want_stone" "want_stone" (defArgs s_want_stone) (defBody s_want_stone) (defScope s_want_stone) .none kV_want_stone dc_want_stone pm_want_stone an_want_stone cd_want_stone ct_want_stone), sl_want_stone⟩) (d_want_stone : PySem.W.codeIn K cd_want_stone "want_stone" = true) (e_want_stone : PySem.W.keepIn K (.ref f_want_stone) = true) (a_Row_place : PySem.W.findIn K (.ref C_Row) "place" = some (some (.ref f_Row_place))) (i_Row_place : PySem.W.isFn K (.ref f_Row_place) = true) (l_Row_place : K.lookup f_Row_place = some ⟨oc_Row_place, od_Row_place, .func (PySem.W.fnOf "place" "Row.place" (defArgs s_Row_place) (defBody s_Row_place) (defScope s_Row_place) .none kV_Row_place dc_Row_place pm_Row_place an_Row_place cd_Row_place ct_Row_place), sl_Row_place⟩) (d_Row_place : PySem.W.codeIn K cd_Row_place "Row.place" = true) (e_Row_place : PySem.W.keepIn K (.ref f_Row_place) = true) (a_is_ahead : PySem.W.nsIn K mainGlobals "is_ahead" = some (some (.ref f_is_ahead))) (l_is_ahead : K.lookup f_is_ahead = some ⟨oc_is_ahead, od_is_ahead, .func (PySem.W.fnOf "is_ahead" "is_ahead" (defArgs s_is_ahead) (defBody s_is_ahead) (defScope s_is_ahead) .none kV_is_ahead dc_is_ahead pm_is_ahead an_is_ahead cd_is_ahead ct_is_ahead), sl_is_ahead⟩) (d_is_ahead : PySem.W.codeIn K cd_is_ahead "is_ahead" = true) (e_is_ahead : PySem.W.keepIn K (.ref f_is_ahead) = true) (a_greatest : PySem.W.nsIn K mainGlobals "greatest" = some (some (.ref f_greatest))) (l_greatest : K.lookup f_greatest = some ⟨oc_greatest, od_greatest, .func (PySem.W.fnOf "greatest" "greatest" (defArgs s_greatest) (defBody s_greatest) (defScope s_greatest) .none kV_greatest dc_greatest pm_greatest an_greatest cd_greatest ct_greatest), sl_greatest⟩) (d_greatest : PySem.W.codeIn K cd_greatest "greatest" = true) (e_greatest : PySem.W.keepIn K (.ref f_greatest) = true) (a_lower : PySem.W.nsIn K mainGlobals "lower" = some (some (.ref f_lower))) (l_lower : K.lookup f_lower = some ⟨oc_lower, od_lower, .func (PySem.W.fnOf "lower" "lower" (defArgs s_lower) (defBody s_lower) (defScope s_lower) .none kV_lower dc_lower pm_lower an_lower cd_lower ct_lower), sl_lower⟩) (d_lower : PySem.W.codeIn K cd_lower "lower" = true) (e_lower : PySem.W.keepIn K (.ref f_lower) = true) (a_greater_child : PySem.W.nsIn K mainGlobals "greater_child" = some (some (.ref f_greater_child))) (l_greater_child : K.lookup f_greater_child = some ⟨oc_greater_child, od_greater_child, .func (PySem.W.fnOf "greater_child" "greater_child" (defArgs s_greater_child) (defBody s_greater_child) (defScope s_greater_child) .none kV_greater_child dc_greater_child pm_greater_child an_greater_child cd_greater_child ct_greater_child), sl_greater_child⟩) (d_greater_child : PySem.W.codeIn K cd_greater_child "greater_child" = true) (e_greater_child : PySem.W.keepIn K (.ref f_greater_child) = true) (a_upper : PySem.W.nsIn K mainGlobals "upper" = some (some (.ref f_upper))) (l_upper : K.lookup f_upper = some ⟨oc_upper, od_upper, .func (PySem.W.fnOf "upper" "upper" (defArgs s_upper) (defBody s_upper) (defScope s_upper) .none kV_upper dc_upper pm_upper an_upper cd_upper ct_upper), sl_upper⟩) (d_upper : PySem.W.codeIn K cd_upper "upper" = true) (e_upper : PySem.W.keepIn K (.ref f_upper) = true) (a_sense_of : PySem.W.nsIn K mainGlobals "sense_of" = some (some (.ref f_sense_of))) (l_sense_of : K.lookup f_sense_of = some ⟨oc_sense_of, od_sense_of, .func (PySem.W.fnOf "sense_of" "sense_of" (defArgs s_sense_of) (defBody s_sense_of) (defScope s_sense_of) .none kV_sense_of dc_sense_of pm_sense_of an_sense_of cd_sense_of ct_sense_of), sl_sense_of⟩) (d_sense_of : PySem.W.codeIn K cd_sense_of "sense_of" = true) (e_sense_of : PySem.W.keepIn K (.ref f_sense_of) = true) (a_sense : PySem.W.nsIn K mainGlobals "sense" = some (some (.ref f_sense))) (l_sense : K.lookup f_sense = some ⟨oc_sense, od_sense, .func (PySem.W.fnOf "sense" "sense" (defArgs s_sense) (defBody s_sense) (defScope s_sense) .none kV_sense dc_sense pm_sense an_sense cd_sense ct_sense), sl_sense⟩) (d_sense : PySem.W.codeIn K cd_sense "sense" = true) (e_sense : PySem.W.keepIn K (.ref f_sense) = true) (a__law_parent : PySem.W.nsIn K mainGlobals "_law_parent" = some (some (.ref f__law_parent))) (l__law_parent : K.lookup f__law_parent = some ⟨oc__law_parent, od__law_parent, .func (PySem.W.fnOf "_law_parent" "_law_parent" (defArgs s__law_parent) (defBody s__law_parent) (defScope s__law_parent) .none kV__law_parent dc__law_parent pm__law_parent an__law_parent cd__law_parent ct__law_parent), sl__law_parent⟩) (d__law_parent : PySem.W.codeIn K cd__law_parent "_law_parent" = true) (e__law_parent : PySem.W.keepIn K (.ref f__law_parent) = true) (a__law_side : PySem.W.nsIn K mainGlobals "_law_side" = some (some (.ref f__law_side))) (l__law_side : K.lookup f__law_side = some ⟨oc__law_side, od__law_side, .func (PySem.W.fnOf "_law_side" "_law_side" (defArgs s__law_side) (defBody s__law_side) (defScope s__law_side) .none kV__law_side dc__law_side pm__law_side an__law_side cd__law_side ct__law_side), sl__law_side⟩) (d__law_side : PySem.W.codeIn K cd__law_side "_law_side" = true) (e__law_side : PySem.W.keepIn K (.ref f__law_side) = true) (a__law_sense : PySem.W.nsIn K mainGlobals "_law_sense" = some (some (.ref f__law_sense))) (l__law_sense : K.lookup f__law_sense = some ⟨oc__law_sense, od__law_sense, .func (PySem.W.fnOf "_law_sense" "_law_sense" (defArgs s__law_sense) (defBody s__law_sense) (defScope s__law_sense) .none kV__law_sense dc__law_sense pm__law_sense an__law_sense cd__law_sense ct__law_sense), sl__law_sense⟩) (d__law_sense : PySem.W.codeIn K cd__law_sense "_law_sense" = true) (e__law_sense : PySem.W.keepIn K (.ref f__law_sense) = true) (a__law_right : PySem.W.nsIn K mainGlobals "_law_right" = some (some (.ref f__law_right))) (l__law_right : K.lookup f__law_right = some ⟨oc__law_right, od__law_right, .func (PySem.W.fnOf "_law_right" "_law_right" (defArgs s__law_right) (defBody s__law_right) (defScope s__law_right) .none kV__law_right dc__law_right pm__law_right an__law_right cd__law_right ct__law_right), sl__law_right⟩) (d__law_right : PySem.W.codeIn K cd__law_right "_law_right" = true) (e__law_right : PySem.W.keepIn K (.ref f__law_right) = true) (a_law : PySem.W.nsIn K mainGlobals "law" = some (some (.ref f_law))) (l_law : K.lookup f_law = some ⟨oc_law, od_law, .func (PySem.W.fnOf "law" "law" (defArgs s_law) (defBody s_law) (defScope s_law) .none kV_law dc_law pm_law an_law cd_law ct_law), sl_law⟩) (d_law : PySem.W.codeIn K cd_law "law" = true) (e_law : PySem.W.keepIn K (.ref f_law) = true) :
    ∃ fd : FuncData, (∀ (s : Shared) (v : Value), BindsTo s fd ⟨[v], []⟩ [("_law_script", v)]) ∧ ∀ base : Heap, K.In base → base.Ns mainGlobals mg → FnOk l.prog w K mg base CX0 7 fa fd ["_law_script"] (spV0 (GG.of K (fun c => ([C_Row, C_Refused, C_BadSize] : List Addr).getD c 0) nm) 1 F_law) := by
  have e := hfa.symm.trans (PySem.W.mg_of X G a_law)
  cases e
  have RC : RefC l.prog K C_Refused fI := ⟨⟨_, _, _, _, _, _, _, _, _, _, r_l, r_c, ⟨_, _, _, _, _, _, r_lc, r_f, r_pf⟩, _, _, _, r_cell⟩, ⟨_, by unfold PySem.W.clsIn; rw [xL_Refused] <;> rfl⟩, r_sup, r_opq, r_top⟩
  have RK_Refused : RefK K C_Refused C_Refused fI := ⟨⟨_, _, _, _, _, _, _, _, _, _, _, _, _, _, _, xL_Refused, .inl ⟨rfl, rfl⟩⟩, xsa_Refused, xga_Refused, xgg_Refused, xnb_Refused, xin_Refused, r_t, xkc_Refused⟩
  have RK_BadSize : RefK K C_Refused C_BadSize fI := ⟨⟨_, _, _, _, _, _, _, _, _, _, _, _, _, _, _, xL_BadSize, .inr ⟨xne_BadSize, rfl⟩⟩, xsa_BadSize, xga_BadSize, xgg_BadSize, xnb_BadSize, xin_BadSize, r_t, xkc_BadSize⟩
  have X_BadSize : FnEx l.prog K mg (GG.of K (fun c => ([C_Row, C_Refused, C_BadSize] : List Addr).getD c 0) nm) "BadSize" 2 := ⟨C_Refused, fI, RC, RK_BadSize, PySem.W.mg_of X G aC_BadSize, PySem.W.mg_none_of X G r_sup⟩
  have XA : ∀ c ∈ kn, ∃ x, FnEx l.prog K mg (GG.of K (fun c => ([C_Row, C_Refused, C_BadSize] : List Addr).getD c 0) nm) x c := fun c hc => by (cases List.mem_singleton.mp hc; exact ⟨_, X_BadSize⟩)
  have XM : ∀ c ∈ kn, ∀ j ∈ js, PySem.W.exmOne K (.ref ((GG.of K (fun c => ([C_Row, C_Refused, C_BadSize] : List Addr).getD c 0) nm).cl c)) (.ref ((GG.of K (fun c => ([C_Row, C_Refused, C_BadSize] : List Addr).getD c 0) nm).cl j)) = some (sb c j) := fun c hc j hj => by (cases List.mem_singleton.mp hc; (cases List.mem_singleton.mp hj; exact exm_sub RK_BadSize xs_BadSize_BadSize))
  have T : Txt l.prog K (GG.of K (fun c => ([C_Row, C_Refused, C_BadSize] : List Addr).getD c 0) nm) mg := ⟨PySem.W.mg_none_of X G n_abs, PySem.W.mg_none_of X G n_dict, PySem.W.mg_none_of X G n_enumerate, PySem.W.mg_none_of X G n_int, PySem.W.mg_none_of X G n_len, PySem.W.mg_none_of X G n_list, PySem.W.mg_none_of X G n_max, PySem.W.mg_none_of X G n_min, PySem.W.mg_none_of X G n_range, PySem.W.mg_none_of X G n_sorted, PySem.W.mg_none_of X G n_tuple, ⟨_, PySem.W.mg_of X G c_BOTH_WALLS⟩, ⟨_, PySem.W.mg_of X G c_LEAST_LENGTH⟩, ⟨_, PySem.W.mg_of X G c_LEAST_LOT⟩, ⟨_, PySem.W.mg_of X G c_MOST_STONES⟩, ⟨_, PySem.W.mg_of X G c_OPEN⟩, ⟨_, PySem.W.mg_of X G c_STONE_LIMIT⟩, ⟨_, PySem.W.mg_of X G c_WALL⟩, ⟨_, PySem.W.mg_of X G c_WALL_AHEAD⟩, ⟨_, PySem.W.mg_of X G c_WALL_BEHIND⟩, ⟨fun c hc => match c, hc with | 0, _ => ⟨⟨pg_Row, hd_Row, po_Row, sa_Row⟩, na_Row_ends⟩ | _ + 1, hc => nomatch hc⟩, ⟨fun c hc => match c, hc with | 0, _ => ⟨⟨pg_Row, hd_Row, po_Row, sa_Row⟩, na_Row_rule⟩ | _ + 1, hc => nomatch hc⟩, ⟨fun c hc => match c, hc with | 0, _ => ⟨⟨pg_Row, hd_Row, po_Row, sa_Row⟩, na_Row_stones⟩ | _ + 1, hc => nomatch hc⟩, ⟨pg_Row, hd_Row, po_Row, sa_Row⟩, by intro p hp; (rcases List.mem_cons.mp hp with e | hp; (subst e; exact na_Row_stones)); (rcases List.mem_cons.mp hp with e | hp; (subst e; exact na_Row_ends)); (cases List.mem_singleton.mp hp; exact na_Row_rule), X_BadSize, PySem.W.mg_of X G aC_BadSize, XA, XM⟩
  have F__law_pool := fun_mk (st := s__law_pool) l__law_pool d__law_pool e__law_pool
  have F__law_take := fun_mk (st := s__law_take) l__law_take d__law_take e__law_take
  have F__law_one := fun_mk (st := s__law_one) l__law_one d__law_one e__law_one
  have F__law_shuffled := fun_mk (st := s__law_shuffled) l__law_shuffled d__law_shuffled e__law_shuffled
  have F__law_stones := fun_mk (st := s__law_stones) l__law_stones d__law_stones e__law_stones
  have F__law_span := fun_mk (st := s__law_span) l__law_span d__law_span e__law_span
  have F__law_length := fun_mk (st := s__law_length) l__law_length d__law_length e__law_length
  have F__law_closers := fun_mk (st := s__law_closers) l__law_closers d__law_closers e__law_closers
  have F__law_heads := fun_mk (st := s__law_heads) l__law_heads d__law_heads e__law_heads
  have F__law_rule := fun_mk (st := s__law_rule) l__law_rule d__law_rule e__law_rule
  have F__law_row := fun_mk (st := s__law_row) l__law_row d__law_row e__law_row
  have F_is_stone := fun_mk (st := s_is_stone) l_is_stone d_is_stone e_is_stone
  have F_want_stones : FnD K "want_stones" "want_stones" s_want_stones [V.int 1] [] f_want_stones (PySem.W.fnOf "want_stones" "want_stones" (defArgs s_want_stones) (defBody s_want_stones) (defScope s_want_stones) (.ref T_want_stones) kV_want_stones dc_want_stones pm_want_stones an_want_stones cd_want_stones ct_want_stones) := by
    refine ⟨⟨_, _, _, _, _, _, _, _, _, _, rfl, l_want_stones, d_want_stones, .inr ⟨by decide, T_want_stones, _, _, _, rfl, t_want_stones, rfl, .cons ⟨_, rfl⟩ (.nil)⟩, .inl rfl⟩, e_want_stones⟩
  have F_want_ends := fun_mk (st := s_want_ends) l_want_ends d_want_ends e_want_ends
  have F_want_rule := fun_mk (st := s_want_rule) l_want_rule d_want_rule e_want_rule
  have F_Row : FnD K "__init__" "Row.__init__" s_init_Row [] [("ends", V.int 0), ("rule", V.non)] f_Row (PySem.W.fnOf "__init__" "Row.__init__" (defArgs s_init_Row) (defBody s_init_Row) (defScope s_init_Row) .none (.ref D_Row) dc_Row pm_Row an_Row cd_Row ct_Row) := by
    refine ⟨⟨_, _, _, _, _, _, _, _, _, _, rfl, l_Row, d_Row, .inl ⟨rfl, rfl⟩, .inr ⟨D_Row, rfl, fun q hq => ?_⟩⟩, e_Row⟩
    rcases List.mem_cons.mp hq with e | hq
    · subst e; exact ⟨_, w_Row_ends_, ⟨_, rfl⟩⟩
    · cases List.mem_singleton.mp hq; exact ⟨_, w_Row_rule_, rfl⟩
  have F_high := fun_mk (st := s_high) l_high d_high e_high
  have F_span := fun_mk (st := s_span) l_span d_span e_span
  have F_length_of := fun_mk (st := s_length_of) l_length_of d_length_of e_length_of
  have F_beside := fun_mk (st := s_beside) l_beside d_beside e_beside
  have F_has_flag := fun_mk (st := s_has_flag) l_has_flag d_has_flag e_has_flag
  have F_is_head := fun_mk (st := s_is_head) l_is_head d_is_head e_is_head
  have F_heads := fun_mk (st := s_heads) l_heads d_heads e_heads
  have F_want_stone := fun_mk (st := s_want_stone) l_want_stone d_want_stone e_want_stone
  have F_Row_place := fun_mk (st := s_Row_place) l_Row_place d_Row_place e_Row_place
  have F_is_ahead := fun_mk (st := s_is_ahead) l_is_ahead d_is_ahead e_is_ahead
  have F_greatest := fun_mk (st := s_greatest) l_greatest d_greatest e_greatest
  have F_lower := fun_mk (st := s_lower) l_lower d_lower e_lower
  have F_greater_child := fun_mk (st := s_greater_child) l_greater_child d_greater_child e_greater_child
  have F_upper := fun_mk (st := s_upper) l_upper d_upper e_upper
  have F_sense_of := fun_mk (st := s_sense_of) l_sense_of d_sense_of e_sense_of
  have F_sense := fun_mk (st := s_sense) l_sense d_sense e_sense
  have F__law_parent := fun_mk (st := s__law_parent) l__law_parent d__law_parent e__law_parent
  have F__law_side := fun_mk (st := s__law_side) l__law_side d__law_side e__law_side
  have F__law_sense := fun_mk (st := s__law_sense) l__law_sense d__law_sense e__law_sense
  have F__law_right := fun_mk (st := s__law_right) l__law_right d__law_right e__law_right
  have F_law := fun_mk (st := s_law) l_law d_law e_law
  refine ⟨PySem.W.fnOf "law" "law" (defArgs s_law) (defBody s_law) (defScope s_law) .none kV_law dc_law pm_law an_law cd_law ct_law, fun s v => .of_eq rfl, fun base _ _ => ?_⟩
  have c__law_pool_ := core__law_pool (P := l.prog) (w := w) (base := base) (cl := (fun c => ([C_Row, C_Refused, C_BadSize] : List Addr).getD c 0)) T F__law_pool
  have h__law_pool := ok__law_pool (P := l.prog) (w := w) (base := base) (cl := (fun c => ([C_Row, C_Refused, C_BadSize] : List Addr).getD c 0)) T F__law_pool (PySem.W.mg_of X G a__law_pool)
  have c__law_take_ := core__law_take (P := l.prog) (w := w) (base := base) (cl := (fun c => ([C_Row, C_Refused, C_BadSize] : List Addr).getD c 0)) T F__law_take
  have h__law_take := ok__law_take (P := l.prog) (w := w) (base := base) (cl := (fun c => ([C_Row, C_Refused, C_BadSize] : List Addr).getD c 0)) T F__law_take (PySem.W.mg_of X G a__law_take)
  have c__law_one_ := core__law_one (P := l.prog) (w := w) (base := base) (cl := (fun c => ([C_Row, C_Refused, C_BadSize] : List Addr).getD c 0)) T F__law_one h__law_take
  have h__law_one := ok__law_one (P := l.prog) (w := w) (base := base) (cl := (fun c => ([C_Row, C_Refused, C_BadSize] : List Addr).getD c 0)) T F__law_one (PySem.W.mg_of X G a__law_one) h__law_take
  have c__law_shuffled_ := core__law_shuffled (P := l.prog) (w := w) (base := base) (cl := (fun c => ([C_Row, C_Refused, C_BadSize] : List Addr).getD c 0)) T F__law_shuffled h__law_take
  have h__law_shuffled := ok__law_shuffled (P := l.prog) (w := w) (base := base) (cl := (fun c => ([C_Row, C_Refused, C_BadSize] : List Addr).getD c 0)) T F__law_shuffled (PySem.W.mg_of X G a__law_shuffled) h__law_take
  have c__law_stones_ := core__law_stones (P := l.prog) (w := w) (base := base) (cl := (fun c => ([C_Row, C_Refused, C_BadSize] : List Addr).getD c 0)) T F__law_stones h__law_take h__law_one h__law_shuffled
  have h__law_stones := ok__law_stones (P := l.prog) (w := w) (base := base) (cl := (fun c => ([C_Row, C_Refused, C_BadSize] : List Addr).getD c 0)) T F__law_stones (PySem.W.mg_of X G a__law_stones) h__law_take h__law_one h__law_shuffled
  have c__law_span_ := core__law_span (P := l.prog) (w := w) (base := base) (cl := (fun c => ([C_Row, C_Refused, C_BadSize] : List Addr).getD c 0)) T F__law_span
  have h__law_span := ok__law_span (P := l.prog) (w := w) (base := base) (cl := (fun c => ([C_Row, C_Refused, C_BadSize] : List Addr).getD c 0)) T F__law_span (PySem.W.mg_of X G a__law_span)
  have c__law_length_ := core__law_length (P := l.prog) (w := w) (base := base) (cl := (fun c => ([C_Row, C_Refused, C_BadSize] : List Addr).getD c 0)) T F__law_length h__law_span
  have h__law_length := ok__law_length (P := l.prog) (w := w) (base := base) (cl := (fun c => ([C_Row, C_Refused, C_BadSize] : List Addr).getD c 0)) T F__law_length (PySem.W.mg_of X G a__law_length) h__law_span
  have c__law_closers_ := core__law_closers (P := l.prog) (w := w) (base := base) (cl := (fun c => ([C_Row, C_Refused, C_BadSize] : List Addr).getD c 0)) T F__law_closers h__law_span
  have h__law_closers := ok__law_closers (P := l.prog) (w := w) (base := base) (cl := (fun c => ([C_Row, C_Refused, C_BadSize] : List Addr).getD c 0)) T F__law_closers (PySem.W.mg_of X G a__law_closers) h__law_span
  have c__law_heads_ := core__law_heads (P := l.prog) (w := w) (base := base) (cl := (fun c => ([C_Row, C_Refused, C_BadSize] : List Addr).getD c 0)) T F__law_heads h__law_length h__law_closers
  have h__law_heads := ok__law_heads (P := l.prog) (w := w) (base := base) (cl := (fun c => ([C_Row, C_Refused, C_BadSize] : List Addr).getD c 0)) T F__law_heads (PySem.W.mg_of X G a__law_heads) h__law_length h__law_closers
  have c__law_rule_ := core__law_rule (P := l.prog) (w := w) (base := base) (cl := (fun c => ([C_Row, C_Refused, C_BadSize] : List Addr).getD c 0)) T F__law_rule h__law_heads h__law_length h__law_take h__law_one
  have h__law_rule := ok__law_rule (P := l.prog) (w := w) (base := base) (cl := (fun c => ([C_Row, C_Refused, C_BadSize] : List Addr).getD c 0)) T F__law_rule (PySem.W.mg_of X G a__law_rule) h__law_heads h__law_length h__law_take h__law_one
  have c__law_row_ := core__law_row (P := l.prog) (w := w) (base := base) (cl := (fun c => ([C_Row, C_Refused, C_BadSize] : List Addr).getD c 0)) T F__law_row h__law_take h__law_stones h__law_one h__law_rule
  have h__law_row := ok__law_row (P := l.prog) (w := w) (base := base) (cl := (fun c => ([C_Row, C_Refused, C_BadSize] : List Addr).getD c 0)) T F__law_row (PySem.W.mg_of X G a__law_row) h__law_take h__law_stones h__law_one h__law_rule
  have c_is_stone_ := core_is_stone (P := l.prog) (w := w) (base := base) (cl := (fun c => ([C_Row, C_Refused, C_BadSize] : List Addr).getD c 0)) T F_is_stone
  have h_is_stone := ok_is_stone (P := l.prog) (w := w) (base := base) (cl := (fun c => ([C_Row, C_Refused, C_BadSize] : List Addr).getD c 0)) T F_is_stone (PySem.W.mg_of X G a_is_stone)
  have c_want_stones_ := core_want_stones (P := l.prog) (w := w) (base := base) (cl := (fun c => ([C_Row, C_Refused, C_BadSize] : List Addr).getD c 0)) T F_want_stones h_is_stone
  have k_want_stones_1 := kw_want_stones_1 (P := l.prog) (cl := (fun c => ([C_Row, C_Refused, C_BadSize] : List Addr).getD c 0)) F_want_stones c_want_stones_ (PySem.W.mg_of X G a_want_stones)
  have c_want_ends_ := core_want_ends (P := l.prog) (w := w) (base := base) (cl := (fun c => ([C_Row, C_Refused, C_BadSize] : List Addr).getD c 0)) T F_want_ends
  have h_want_ends := ok_want_ends (P := l.prog) (w := w) (base := base) (cl := (fun c => ([C_Row, C_Refused, C_BadSize] : List Addr).getD c 0)) T F_want_ends (PySem.W.mg_of X G a_want_ends)
  have c_want_rule_ := core_want_rule (P := l.prog) (w := w) (base := base) (cl := (fun c => ([C_Row, C_Refused, C_BadSize] : List Addr).getD c 0)) T F_want_rule
  have h_want_rule := ok_want_rule (P := l.prog) (w := w) (base := base) (cl := (fun c => ([C_Row, C_Refused, C_BadSize] : List Addr).getD c 0)) T F_want_rule (PySem.W.mg_of X G a_want_rule)
  have c_Row_ := core_Row (P := l.prog) (w := w) (base := base) (cl := (fun c => ([C_Row, C_Refused, C_BadSize] : List Addr).getD c 0)) T F_Row h_want_ends h_want_rule k_want_stones_1
  have q_Row_1_ends := mk_Row_1_ends (P := l.prog) (cl := (fun c => ([C_Row, C_Refused, C_BadSize] : List Addr).getD c 0)) F_Row c_Row_ ⟨mk_Row, a_Row, i_Row, kc_Row⟩ (PySem.W.mg_of X G aC_Row)
  have q_Row_1_ends_rule := mk_Row_1_ends_rule (P := l.prog) (cl := (fun c => ([C_Row, C_Refused, C_BadSize] : List Addr).getD c 0)) F_Row c_Row_ ⟨mk_Row, a_Row, i_Row, kc_Row⟩ (PySem.W.mg_of X G aC_Row)
  have c_high_ := core_high (P := l.prog) (w := w) (base := base) (cl := (fun c => ([C_Row, C_Refused, C_BadSize] : List Addr).getD c 0)) T F_high q_Row_1_ends
  have h_high := ok_high (P := l.prog) (w := w) (base := base) (cl := (fun c => ([C_Row, C_Refused, C_BadSize] : List Addr).getD c 0)) T F_high (PySem.W.mg_of X G a_high) q_Row_1_ends
  have k_high_0_least_row := kw_high_0_least_row (P := l.prog) (cl := (fun c => ([C_Row, C_Refused, C_BadSize] : List Addr).getD c 0)) F_high c_high_ (PySem.W.mg_of X G a_high)
  have c_span_ := core_span (P := l.prog) (w := w) (base := base) (cl := (fun c => ([C_Row, C_Refused, C_BadSize] : List Addr).getD c 0)) T F_span
  have h_span := ok_span (P := l.prog) (w := w) (base := base) (cl := (fun c => ([C_Row, C_Refused, C_BadSize] : List Addr).getD c 0)) T F_span (PySem.W.mg_of X G a_span)
  have c_length_of_ := core_length_of (P := l.prog) (w := w) (base := base) (cl := (fun c => ([C_Row, C_Refused, C_BadSize] : List Addr).getD c 0)) T F_length_of h_span
  have h_length_of := ok_length_of (P := l.prog) (w := w) (base := base) (cl := (fun c => ([C_Row, C_Refused, C_BadSize] : List Addr).getD c 0)) T F_length_of (PySem.W.mg_of X G a_length_of) h_span
  have c_beside_ := core_beside (P := l.prog) (w := w) (base := base) (cl := (fun c => ([C_Row, C_Refused, C_BadSize] : List Addr).getD c 0)) T F_beside
  have h_beside := ok_beside (P := l.prog) (w := w) (base := base) (cl := (fun c => ([C_Row, C_Refused, C_BadSize] : List Addr).getD c 0)) T F_beside (PySem.W.mg_of X G a_beside)
  have c_has_flag_ := core_has_flag (P := l.prog) (w := w) (base := base) (cl := (fun c => ([C_Row, C_Refused, C_BadSize] : List Addr).getD c 0)) T F_has_flag h_span h_beside
  have h_has_flag := ok_has_flag (P := l.prog) (w := w) (base := base) (cl := (fun c => ([C_Row, C_Refused, C_BadSize] : List Addr).getD c 0)) T F_has_flag (PySem.W.mg_of X G a_has_flag) h_span h_beside
  have c_is_head_ := core_is_head (P := l.prog) (w := w) (base := base) (cl := (fun c => ([C_Row, C_Refused, C_BadSize] : List Addr).getD c 0)) T F_is_head h_length_of h_has_flag
  have h_is_head := ok_is_head (P := l.prog) (w := w) (base := base) (cl := (fun c => ([C_Row, C_Refused, C_BadSize] : List Addr).getD c 0)) T F_is_head (PySem.W.mg_of X G a_is_head) h_length_of h_has_flag
  have c_heads_ := core_heads (P := l.prog) (w := w) (base := base) (cl := (fun c => ([C_Row, C_Refused, C_BadSize] : List Addr).getD c 0)) T F_heads h_is_head
  have h_heads := ok_heads (P := l.prog) (w := w) (base := base) (cl := (fun c => ([C_Row, C_Refused, C_BadSize] : List Addr).getD c 0)) T F_heads (PySem.W.mg_of X G a_heads) h_is_head
  have c_want_stone_ := core_want_stone (P := l.prog) (w := w) (base := base) (cl := (fun c => ([C_Row, C_Refused, C_BadSize] : List Addr).getD c 0)) T F_want_stone
  have h_want_stone := ok_want_stone (P := l.prog) (w := w) (base := base) (cl := (fun c => ([C_Row, C_Refused, C_BadSize] : List Addr).getD c 0)) T F_want_stone (PySem.W.mg_of X G a_want_stone)
  have c_Row_place_ := core_Row_place (P := l.prog) (w := w) (base := base) (cl := (fun c => ([C_Row, C_Refused, C_BadSize] : List Addr).getD c 0)) T F_Row_place h_want_stone
  have t_Row_place := ok_Row_place (P := l.prog) (w := w) (base := base) (cl := (fun c => ([C_Row, C_Refused, C_BadSize] : List Addr).getD c 0)) T F_Row_place ⟨a_Row_place, i_Row_place, e_Row_place⟩ h_want_stone
  have c_is_ahead_ := core_is_ahead (P := l.prog) (w := w) (base := base) (cl := (fun c => ([C_Row, C_Refused, C_BadSize] : List Addr).getD c 0)) T F_is_ahead t_Row_place
  have h_is_ahead := ok_is_ahead (P := l.prog) (w := w) (base := base) (cl := (fun c => ([C_Row, C_Refused, C_BadSize] : List Addr).getD c 0)) T F_is_ahead (PySem.W.mg_of X G a_is_ahead) t_Row_place
  have c_greatest_ := core_greatest (P := l.prog) (w := w) (base := base) (cl := (fun c => ([C_Row, C_Refused, C_BadSize] : List Addr).getD c 0)) T F_greatest
  have h_greatest := ok_greatest (P := l.prog) (w := w) (base := base) (cl := (fun c => ([C_Row, C_Refused, C_BadSize] : List Addr).getD c 0)) T F_greatest (PySem.W.mg_of X G a_greatest)
  have c_lower_ := core_lower (P := l.prog) (w := w) (base := base) (cl := (fun c => ([C_Row, C_Refused, C_BadSize] : List Addr).getD c 0)) T F_lower h_span h_greatest
  have h_lower := ok_lower (P := l.prog) (w := w) (base := base) (cl := (fun c => ([C_Row, C_Refused, C_BadSize] : List Addr).getD c 0)) T F_lower (PySem.W.mg_of X G a_lower) h_span h_greatest
  have c_greater_child_ := core_greater_child (P := l.prog) (w := w) (base := base) (cl := (fun c => ([C_Row, C_Refused, C_BadSize] : List Addr).getD c 0)) T F_greater_child h_lower
  have h_greater_child := ok_greater_child (P := l.prog) (w := w) (base := base) (cl := (fun c => ([C_Row, C_Refused, C_BadSize] : List Addr).getD c 0)) T F_greater_child (PySem.W.mg_of X G a_greater_child) h_lower
  have c_upper_ := core_upper (P := l.prog) (w := w) (base := base) (cl := (fun c => ([C_Row, C_Refused, C_BadSize] : List Addr).getD c 0)) T F_upper h_span h_beside
  have h_upper := ok_upper (P := l.prog) (w := w) (base := base) (cl := (fun c => ([C_Row, C_Refused, C_BadSize] : List Addr).getD c 0)) T F_upper (PySem.W.mg_of X G a_upper) h_span h_beside
  have c_sense_of_ := core_sense_of (P := l.prog) (w := w) (base := base) (cl := (fun c => ([C_Row, C_Refused, C_BadSize] : List Addr).getD c 0)) T F_sense_of h_greater_child h_is_ahead h_upper
  have h_sense_of := ok_sense_of (P := l.prog) (w := w) (base := base) (cl := (fun c => ([C_Row, C_Refused, C_BadSize] : List Addr).getD c 0)) T F_sense_of (PySem.W.mg_of X G a_sense_of) h_greater_child h_is_ahead h_upper
  have c_sense_ := core_sense (P := l.prog) (w := w) (base := base) (cl := (fun c => ([C_Row, C_Refused, C_BadSize] : List Addr).getD c 0)) T F_sense h_is_head h_sense_of
  have h_sense := ok_sense (P := l.prog) (w := w) (base := base) (cl := (fun c => ([C_Row, C_Refused, C_BadSize] : List Addr).getD c 0)) T F_sense (PySem.W.mg_of X G a_sense) h_is_head h_sense_of
  have c__law_parent_ := core__law_parent (P := l.prog) (w := w) (base := base) (cl := (fun c => ([C_Row, C_Refused, C_BadSize] : List Addr).getD c 0)) T F__law_parent h__law_closers
  have h__law_parent := ok__law_parent (P := l.prog) (w := w) (base := base) (cl := (fun c => ([C_Row, C_Refused, C_BadSize] : List Addr).getD c 0)) T F__law_parent (PySem.W.mg_of X G a__law_parent) h__law_closers
  have c__law_side_ := core__law_side (P := l.prog) (w := w) (base := base) (cl := (fun c => ([C_Row, C_Refused, C_BadSize] : List Addr).getD c 0)) T F__law_side h__law_span
  have h__law_side := ok__law_side (P := l.prog) (w := w) (base := base) (cl := (fun c => ([C_Row, C_Refused, C_BadSize] : List Addr).getD c 0)) T F__law_side (PySem.W.mg_of X G a__law_side) h__law_span
  have c__law_sense_ := core__law_sense (P := l.prog) (w := w) (base := base) (cl := (fun c => ([C_Row, C_Refused, C_BadSize] : List Addr).getD c 0)) T F__law_sense h__law_parent h__law_side
  have h__law_sense := ok__law_sense (P := l.prog) (w := w) (base := base) (cl := (fun c => ([C_Row, C_Refused, C_BadSize] : List Addr).getD c 0)) T F__law_sense (PySem.W.mg_of X G a__law_sense) h__law_parent h__law_side
  have c__law_right_ := core__law_right (P := l.prog) (w := w) (base := base) (cl := (fun c => ([C_Row, C_Refused, C_BadSize] : List Addr).getD c 0)) T F__law_right h_heads h__law_heads h_sense h__law_sense k_high_0_least_row
  have h__law_right := ok__law_right (P := l.prog) (w := w) (base := base) (cl := (fun c => ([C_Row, C_Refused, C_BadSize] : List Addr).getD c 0)) T F__law_right (PySem.W.mg_of X G a__law_right) h_heads h__law_heads h_sense h__law_sense k_high_0_least_row
  have c_law_ := core_law (P := l.prog) (w := w) (base := base) (cl := (fun c => ([C_Row, C_Refused, C_BadSize] : List Addr).getD c 0)) T F_law h__law_pool h__law_row h__law_take h__law_one h__law_right q_Row_1_ends_rule
  exact c_law_
end K58

namespace K58
open PySem TV
theorem atI_nat {α : Type} {xs : List α} {i : Nat} : L2.atI xs (i : Int) = xs[i]? := by
  unfold L2.atI L2.ixN
  by_cases c : i < xs.length
  · rw [if_pos (by omega), if_pos (by omega)]
    simp
  · rw [if_pos (by omega), if_neg (by omega), List.getElem?_eq_none (by omega)]
    rfl

theorem atI_succ {α : Type} {xs : List α} {i : Nat} : L2.atI xs ((i : Int) + 1) = xs[i + 1]? := by
  have e : (i : Int) + 1 = ((i + 1 : Nat) : Int) := by omega
  rw [e, atI_nat]

theorem atI_pred {α : Type} {xs : List α} {i : Nat} : L2.atI xs ((i : Int) + 1 - 1) = xs[i]? := by
  have e : (i : Int) + 1 - 1 = (i : Int) := by omega
  rw [e, atI_nat]

theorem e_is_stone (x : Int) : F_is_stone [some (.int x)] = .ok (.bl (decide ((if x < 0 then -x else x) < 10 ^ 15)), [some (.int x)]) := by
  simp [F_is_stone, m_is_stone, b_ok, b_stuck, b_exc, a_def, f_ok, f_exc, k_rt, k_nx, a_do, a_set, a_set2, a_drop, a_ret, a_unp, a_seq, k_seq, k_seqr, k_seqb, k_seqc, a_op, k_op, a_c, a_var, a_b, k_b, a_then, k_and1, k_and0, k_or1, k_or0, k_andV1, k_andV0, k_orV1, k_orV0, k_if1, k_if0, k_ifS1, k_ifS0, k_ifT1, k_ifT0, k_notV, k_not, a_yes, a_no, a_next, a_never, a_par, k_par, a_for, k_for, a_i1, k_i1, a_io, k_io, a_call, k_call, a_callP, k_callP, a_chain, k_chain, a_mut, k_mut, a_sto, k_sto, a_lc, k_lc, a_new, a_gN, a_gT, d_lt, d_le, d_gt, d_ge, d_intB, ev, rds, chk, pAny, pTup, pInt, takeA, wbE, permL, padE, outE, gNs, own_int, own_bl, own_str, own_non, own_tup, own_ins, own_frl, own_lst, own_dic, dTup, dLst, dAdd, dSub, dMulS, dDiv, dMod, dNeg, dInt, dAbs, dIsN, dNotN, D.isNon, dLen, dItems, dIx, dTru, D.tru, D.seq, fSetL, fAppend, sizeLine_eq, rg1, rg2, rg3, rg4, rg5, rg6, rg7, rg8, a_raise, k_raise, a_par3, k_par3, a_try, kt_ok, kt_exc, hdl, sEnd, dropN, inR, dRev, a_fz, k_fzL, k_fzF, k_fzT, a_fzS, k_fzS]
/-! ### the span of a stone -/

def dn (s : List Int) (x : Int) : Nat → Nat
  | 0 => 0
  | i + 1 => if s.getD i 0 < x then dn s x i else i + 1

def up (s : List Int) (x : Int) : Nat → Nat → Nat
  | 0, i => i
  | k + 1, i => if i + 1 < s.length ∧ s.getD (i + 1) 0 < x then up s x k (i + 1) else i

theorem down_run {s : List Int} {x : Int} {t : MT} {b : MS} {E : Nat → TV.Env} (h0 : t (E 0) = .ok (false, E 0)) (hs : ∀ i, i < s.length → t (E (i + 1)) = .ok (decide (s.getD i 0 < x), E (i + 1))) (hb : ∀ i, b (E (i + 1)) = .ok (.nx, E i)) :
    ∀ i n, i < n → i ≤ s.length → whileN t b n (E i) = .ok (.nx, E (dn s x i))
  | 0, n + 1, _, _ => by
    unfold whileN
    rw [h0]
    rfl
  | i + 1, n + 1, h1, h2 => by
    unfold whileN
    rw [hs i h2]
    unfold dn
    by_cases c : s.getD i 0 < x
    · rw [if_pos c, decide_eq_true c]
      show (b (E (i + 1))).bind _ = _
      rw [hb i]
      exact down_run h0 hs hb i n (by omega) (by omega)
    · rw [if_neg c, decide_eq_false c]
      rfl

theorem up_run {s : List Int} {x : Int} {t : MT} {b : MS} {E : Nat → TV.Env} (hs : ∀ i, i < s.length → t (E i) = .ok (decide (i + 1 < s.length ∧ s.getD (i + 1) 0 < x), E i)) (hb : ∀ i, b (E i) = .ok (.nx, E (i + 1))) :
    ∀ k i n, k < n → i < s.length → s.length ≤ i + k → whileN t b n (E i) = .ok (.nx, E (up s x k i))
  | 0, i, n + 1, _, h2, h3 => by omega
  | k + 1, i, n + 1, h1, h2, h3 => by
    unfold whileN
    rw [hs i h2]
    unfold up
    by_cases c : i + 1 < s.length ∧ s.getD (i + 1) 0 < x
    · rw [if_pos c, decide_eq_true c]
      show (b (E i)).bind _ = _
      rw [hb i]
      exact up_run hs hb k (i + 1) n (by omega) c.1 (by omega)
    · rw [if_neg c, decide_eq_false c]
      rfl

theorem dInts_map (s : List Int) : dInts (s.map D.int) = some s := by
  induction s with
  | nil => rfl
  | cons a s ih => simp [dInts, ih]

theorem get_map {s : List Int} {i : Nat} (h : i < s.length) : (s.map D.int)[i]? = some (.int (s.getD i 0)) := by
  rw [List.getElem?_map, List.getElem?_eq_getElem h, List.getD_eq_getElem?_getD, List.getElem?_eq_getElem h]
  rfl

/-- a row -/
def rowD (s : List Int) (e : Int) (r : D) : D := .ins 0 [.tup (s.map D.int), .int e, r]

theorem f_stones (s : List Int) (e : Int) (r : D) : dFld nm "stones" [rowD s e r] = some (.tup (s.map .int)) := by
  simp [dFld, nm, rowD, List.lookup]

theorem f_ends (s : List Int) (e : Int) (r : D) : dFld nm "ends" [rowD s e r] = some (.int e) := by
  have c : (Str.ofString "ends" == Str.ofString "stones") = false := by decide +kernel
  simp [dFld, nm, rowD, List.lookup, c]

theorem f_rule (s : List Int) (e : Int) (r : D) : dFld nm "rule" [rowD s e r] = some r := by
  have c : (Str.ofString "rule" == Str.ofString "stones") = false := by decide +kernel
  have c2 : (Str.ofString "rule" == Str.ofString "ends") = false := by decide +kernel
  simp [dFld, nm, rowD, List.lookup, c, c2]

theorem own_row (s : List Int) (e : Int) (r : D) : (rowD s e r).own = false := rfl

theorem ixOf_lt {x : Int} : ∀ {s : List Int}, x ∈ s → ixOf x s < s.length
  | y :: ys, h => by
    unfold ixOf
    split
    · simp
    · rename_i c
      rcases List.mem_cons.mp h with e | m
      · exact absurd e (by intro e; apply c; simp [e])
      · have := ixOf_lt m
        simp; omega

def lo (s : List Int) (x : Int) : Nat := dn s x (ixOf x s)

def hi (s : List Int) (x : Int) : Nat := up s x s.length (ixOf x s)

def A1 : TV.Env → MT → Prop := fun _ _ => True

theorem e_span (s : List Int) (e : Int) (r : D) (x : Int) (hx : x ∈ s) (hl : s.length ≤ 40) : F_span [some (rowD s e r), some (.int x)] = .ok (.tup [.int (lo s x), .int (hi s x)], [some (rowD s e r), some (.int x)]) := by
  have hi0 := ixOf_lt hx
  have E1 : ∀ (last : Int) (i : Nat), i ≤ s.length → mWhile (mAnd (mB (mOp [.var 3 pAny, .tmp (mC (.int 0)) pAny] dGt)) (mB (mOp [.tmp (mOp [.var 2 pAny, .tmp (mOp [.var 3 pAny, .tmp (mC (.int 1)) pAny] dSub) pAny] dIx) pAny, .var 1 pAny] dLt))) (mSet 3 (mOp [.var 3 pAny, .tmp (mC (.int 1)) pAny] dSub)) [some (rowD s e r), some (.int x), some (.tup (s.map D.int)), some (.int (i : Nat)), some (.int last)]
      = .ok (.nx, [some (rowD s e r), some (.int x), some (.tup (s.map D.int)), some (.int (dn s x i : Nat)), some (.int last)]) := fun last i h1 => by
    refine down_run (s := s) (x := x) (E := fun i => [some (rowD s e r), some (.int x), some (.tup (s.map D.int)), some (.int (i : Nat)), some (.int last)]) ?_ (fun i h => ?_) (fun i => ?_) i fuel (by unfold fuel; omega) h1
    · simp [b_ok, b_stuck, b_exc, a_def, f_ok, f_exc, k_rt, k_nx, a_do, a_set, a_set2, a_drop, a_ret, a_unp, a_seq, k_seq, k_seqr, k_seqb, k_seqc, a_op, k_op, a_c, a_var, a_b, k_b, a_then, k_and1, k_and0, k_or1, k_or0, k_andV1, k_andV0, k_orV1, k_orV0, k_if1, k_if0, k_ifS1, k_ifS0, k_ifT1, k_ifT0, k_notV, k_not, a_yes, a_no, a_next, a_never, a_par, k_par, a_for, k_for, a_i1, k_i1, a_io, k_io, a_call, k_call, a_callP, k_callP, a_chain, k_chain, a_mut, k_mut, a_sto, k_sto, a_lc, k_lc, a_new, a_gN, a_gT, d_lt, d_le, d_gt, d_ge, d_intB, ev, rds, chk, pAny, pTup, pInt, takeA, wbE, permL, padE, outE, gNs, own_int, own_bl, own_str, own_non, own_tup, own_ins, own_frl, own_lst, own_dic, dTup, dLst, dAdd, dSub, dMulS, dDiv, dMod, dNeg, dInt, dAbs, dIsN, dNotN, D.isNon, dLen, dItems, dIx, dTru, D.tru, D.seq, fSetL, fAppend, sizeLine_eq, rg1, rg2, rg3, rg4, rg5, rg6, rg7, rg8, a_raise, k_raise, a_par3, k_par3, a_try, kt_ok, kt_exc, hdl, sEnd, dropN, inR, dRev, a_fz, k_fzL, k_fzF, k_fzT, a_fzS, k_fzS]
    · have c : (0 : Int) < (i : Int) + 1 := by omega
      simp [b_ok, b_stuck, b_exc, a_def, f_ok, f_exc, k_rt, k_nx, a_do, a_set, a_set2, a_drop, a_ret, a_unp, a_seq, k_seq, k_seqr, k_seqb, k_seqc, a_op, k_op, a_c, a_var, a_b, k_b, a_then, k_and1, k_and0, k_or1, k_or0, k_andV1, k_andV0, k_orV1, k_orV0, k_if1, k_if0, k_ifS1, k_ifS0, k_ifT1, k_ifT0, k_notV, k_not, a_yes, a_no, a_next, a_never, a_par, k_par, a_for, k_for, a_i1, k_i1, a_io, k_io, a_call, k_call, a_callP, k_callP, a_chain, k_chain, a_mut, k_mut, a_sto, k_sto, a_lc, k_lc, a_new, a_gN, a_gT, d_lt, d_le, d_gt, d_ge, d_intB, ev, rds, chk, pAny, pTup, pInt, takeA, wbE, permL, padE, outE, gNs, own_int, own_bl, own_str, own_non, own_tup, own_ins, own_frl, own_lst, own_dic, dTup, dLst, dAdd, dSub, dMulS, dDiv, dMod, dNeg, dInt, dAbs, dIsN, dNotN, D.isNon, dLen, dItems, dIx, dTru, D.tru, D.seq, fSetL, fAppend, sizeLine_eq, rg1, rg2, rg3, rg4, rg5, rg6, rg7, rg8, a_raise, k_raise, a_par3, k_par3, a_try, kt_ok, kt_exc, hdl, sEnd, dropN, inR, dRev, a_fz, k_fzL, k_fzF, k_fzT, a_fzS, k_fzS, atI_nat, List.getElem?_eq_getElem, h, c]
    · simp [b_ok, b_stuck, b_exc, a_def, f_ok, f_exc, k_rt, k_nx, a_do, a_set, a_set2, a_drop, a_ret, a_unp, a_seq, k_seq, k_seqr, k_seqb, k_seqc, a_op, k_op, a_c, a_var, a_b, k_b, a_then, k_and1, k_and0, k_or1, k_or0, k_andV1, k_andV0, k_orV1, k_orV0, k_if1, k_if0, k_ifS1, k_ifS0, k_ifT1, k_ifT0, k_notV, k_not, a_yes, a_no, a_next, a_never, a_par, k_par, a_for, k_for, a_i1, k_i1, a_io, k_io, a_call, k_call, a_callP, k_callP, a_chain, k_chain, a_mut, k_mut, a_sto, k_sto, a_lc, k_lc, a_new, a_gN, a_gT, d_lt, d_le, d_gt, d_ge, d_intB, ev, rds, chk, pAny, pTup, pInt, takeA, wbE, permL, padE, outE, gNs, own_int, own_bl, own_str, own_non, own_tup, own_ins, own_frl, own_lst, own_dic, dTup, dLst, dAdd, dSub, dMulS, dDiv, dMod, dNeg, dInt, dAbs, dIsN, dNotN, D.isNon, dLen, dItems, dIx, dTru, D.tru, D.seq, fSetL, fAppend, sizeLine_eq, rg1, rg2, rg3, rg4, rg5, rg6, rg7, rg8, a_raise, k_raise, a_par3, k_par3, a_try, kt_ok, kt_exc, hdl, sEnd, dropN, inR, dRev, a_fz, k_fzL, k_fzF, k_fzT, a_fzS, k_fzS]
  have E2 : ∀ (first : Int) (i : Nat), i < s.length → mWhile (mAnd (mB (mOp [.tmp (mOp [.var 4 pAny, .tmp (mC (.int 1)) pAny] dAdd) pAny, .tmp (mOp [.var 2 pAny] dLen) pAny] dLt)) (mB (mOp [.tmp (mOp [.var 2 pAny, .tmp (mOp [.var 4 pAny, .tmp (mC (.int 1)) pAny] dAdd) pAny] dIx) pAny, .var 1 pAny] dLt))) (mSet 4 (mOp [.var 4 pAny, .tmp (mC (.int 1)) pAny] dAdd)) [some (rowD s e r), some (.int x), some (.tup (s.map D.int)), some (.int first), some (.int (i : Nat))]
      = .ok (.nx, [some (rowD s e r), some (.int x), some (.tup (s.map D.int)), some (.int first), some (.int (up s x s.length i : Nat))]) := fun first i h1 => by
    refine up_run (s := s) (x := x) (E := fun i => [some (rowD s e r), some (.int x), some (.tup (s.map D.int)), some (.int first), some (.int (i : Nat))]) (fun i h => ?_) (fun i => ?_) s.length i fuel (by unfold fuel; omega) h1 (by omega)
    · by_cases c : i + 1 < s.length
      · have c' : (i : Int) + 1 < s.length := by omega
        simp [b_ok, b_stuck, b_exc, a_def, f_ok, f_exc, k_rt, k_nx, a_do, a_set, a_set2, a_drop, a_ret, a_unp, a_seq, k_seq, k_seqr, k_seqb, k_seqc, a_op, k_op, a_c, a_var, a_b, k_b, a_then, k_and1, k_and0, k_or1, k_or0, k_andV1, k_andV0, k_orV1, k_orV0, k_if1, k_if0, k_ifS1, k_ifS0, k_ifT1, k_ifT0, k_notV, k_not, a_yes, a_no, a_next, a_never, a_par, k_par, a_for, k_for, a_i1, k_i1, a_io, k_io, a_call, k_call, a_callP, k_callP, a_chain, k_chain, a_mut, k_mut, a_sto, k_sto, a_lc, k_lc, a_new, a_gN, a_gT, d_lt, d_le, d_gt, d_ge, d_intB, ev, rds, chk, pAny, pTup, pInt, takeA, wbE, permL, padE, outE, gNs, own_int, own_bl, own_str, own_non, own_tup, own_ins, own_frl, own_lst, own_dic, dTup, dLst, dAdd, dSub, dMulS, dDiv, dMod, dNeg, dInt, dAbs, dIsN, dNotN, D.isNon, dLen, dItems, dIx, dTru, D.tru, D.seq, fSetL, fAppend, sizeLine_eq, rg1, rg2, rg3, rg4, rg5, rg6, rg7, rg8, a_raise, k_raise, a_par3, k_par3, a_try, kt_ok, kt_exc, hdl, sEnd, dropN, inR, dRev, a_fz, k_fzL, k_fzF, k_fzT, a_fzS, k_fzS, atI_succ, get_map c, c, c']
      · have c' : ¬ (i : Int) + 1 < s.length := by omega
        simp [b_ok, b_stuck, b_exc, a_def, f_ok, f_exc, k_rt, k_nx, a_do, a_set, a_set2, a_drop, a_ret, a_unp, a_seq, k_seq, k_seqr, k_seqb, k_seqc, a_op, k_op, a_c, a_var, a_b, k_b, a_then, k_and1, k_and0, k_or1, k_or0, k_andV1, k_andV0, k_orV1, k_orV0, k_if1, k_if0, k_ifS1, k_ifS0, k_ifT1, k_ifT0, k_notV, k_not, a_yes, a_no, a_next, a_never, a_par, k_par, a_for, k_for, a_i1, k_i1, a_io, k_io, a_call, k_call, a_callP, k_callP, a_chain, k_chain, a_mut, k_mut, a_sto, k_sto, a_lc, k_lc, a_new, a_gN, a_gT, d_lt, d_le, d_gt, d_ge, d_intB, ev, rds, chk, pAny, pTup, pInt, takeA, wbE, permL, padE, outE, gNs, own_int, own_bl, own_str, own_non, own_tup, own_ins, own_frl, own_lst, own_dic, dTup, dLst, dAdd, dSub, dMulS, dDiv, dMod, dNeg, dInt, dAbs, dIsN, dNotN, D.isNon, dLen, dItems, dIx, dTru, D.tru, D.seq, fSetL, fAppend, sizeLine_eq, rg1, rg2, rg3, rg4, rg5, rg6, rg7, rg8, a_raise, k_raise, a_par3, k_par3, a_try, kt_ok, kt_exc, hdl, sEnd, dropN, inR, dRev, a_fz, k_fzL, k_fzF, k_fzT, a_fzS, k_fzS, c, c']
    · simp [b_ok, b_stuck, b_exc, a_def, f_ok, f_exc, k_rt, k_nx, a_do, a_set, a_set2, a_drop, a_ret, a_unp, a_seq, k_seq, k_seqr, k_seqb, k_seqc, a_op, k_op, a_c, a_var, a_b, k_b, a_then, k_and1, k_and0, k_or1, k_or0, k_andV1, k_andV0, k_orV1, k_orV0, k_if1, k_if0, k_ifS1, k_ifS0, k_ifT1, k_ifT0, k_notV, k_not, a_yes, a_no, a_next, a_never, a_par, k_par, a_for, k_for, a_i1, k_i1, a_io, k_io, a_call, k_call, a_callP, k_callP, a_chain, k_chain, a_mut, k_mut, a_sto, k_sto, a_lc, k_lc, a_new, a_gN, a_gT, d_lt, d_le, d_gt, d_ge, d_intB, ev, rds, chk, pAny, pTup, pInt, takeA, wbE, permL, padE, outE, gNs, own_int, own_bl, own_str, own_non, own_tup, own_ins, own_frl, own_lst, own_dic, dTup, dLst, dAdd, dSub, dMulS, dDiv, dMod, dNeg, dInt, dAbs, dIsN, dNotN, D.isNon, dLen, dItems, dIx, dTru, D.tru, D.seq, fSetL, fAppend, sizeLine_eq, rg1, rg2, rg3, rg4, rg5, rg6, rg7, rg8, a_raise, k_raise, a_par3, k_par3, a_try, kt_ok, kt_exc, hdl, sEnd, dropN, inR, dRev, a_fz, k_fzL, k_fzF, k_fzT, a_fzS, k_fzS]
  unfold F_span m_span
  simp [b_ok, b_stuck, b_exc, a_def, f_ok, f_exc, k_rt, k_nx, a_do, a_set, a_set2, a_drop, a_ret, a_unp, a_seq, k_seq, k_seqr, k_seqb, k_seqc, a_op, k_op, a_c, a_var, a_b, k_b, a_then, k_and1, k_and0, k_or1, k_or0, k_andV1, k_andV0, k_orV1, k_orV0, k_if1, k_if0, k_ifS1, k_ifS0, k_ifT1, k_ifT0, k_notV, k_not, a_yes, a_no, a_next, a_never, a_par, k_par, a_for, k_for, a_i1, k_i1, a_io, k_io, a_call, k_call, a_callP, k_callP, a_chain, k_chain, a_mut, k_mut, a_sto, k_sto, a_lc, k_lc, a_new, a_gN, a_gT, d_lt, d_le, d_gt, d_ge, d_intB, ev, rds, chk, pAny, pTup, pInt, takeA, wbE, permL, padE, outE, gNs, own_int, own_bl, own_str, own_non, own_tup, own_ins, own_frl, own_lst, own_dic, dTup, dLst, dAdd, dSub, dMulS, dDiv, dMod, dNeg, dInt, dAbs, dIsN, dNotN, D.isNon, dLen, dItems, dIx, dTru, D.tru, D.seq, fSetL, fAppend, sizeLine_eq, rg1, rg2, rg3, rg4, rg5, rg6, rg7, rg8, a_raise, k_raise, a_par3, k_par3, a_try, kt_ok, kt_exc, hdl, sEnd, dropN, inR, dRev, a_fz, k_fzL, k_fzF, k_fzT, a_fzS, k_fzS, f_stones, dIxT, dInts_map, hx, E1, E2, hi0, Nat.le_of_lt hi0, lo, hi, own_row]

theorem in_ints (e : Int) (as : List Int) : dInA false [.int e, .tup (as.map .int)] = some (.bl (decide (e ∈ as))) := by
  have h : TV.fls (as.map D.int) = some (as.map L2.V.int) := by
    induction as with
    | nil => rfl
    | cons a as ih => simp [TV.fls, D.fl, ih]
  have k : L2.inV (.int e) (as.map L2.V.int) = decide (e ∈ as) := by
    unfold L2.inV
    rw [Bool.eq_iff_iff]
    simp only [List.any_map, List.any_eq_true, decide_eq_true_eq, Function.comp]
    constructor
    · rintro ⟨a, m, q⟩
      have : a = e := by simpa [L2.eqV] using q
      rw [← this]; exact m
    · intro m
      exact ⟨e, m, by simp [L2.eqV]⟩
  simp [dInA, dInF, D.fl, dItems, h, k]

theorem in_2 (e a b : Int) : dInA false [.int e, .tup [.int a, .int b]] = some (.bl (decide (e = a ∨ e = b))) := by
  have := in_ints e [a, b]
  simpa using this

def opn : D := .str "open"

def wal : D := .str "wall"

def aD (s : List Int) (e : Int) (i : Nat) : D := if 0 < i then .int (s.getD (i - 1) 0) else if e = 1 ∨ e = 3 then wal else opn

def bD (s : List Int) (e : Int) (j : Nat) : D := if j + 1 < s.length then .int (s.getD (j + 1) 0) else if 2 ≤ e then wal else opn

theorem aD_own (s : List Int) (e : Int) (i : Nat) : (aD s e i).own = false := by
  unfold aD wal opn
  split
  · rfl
  · split <;> rfl

theorem bD_own (s : List Int) (e : Int) (i : Nat) : (bD s e i).own = false := by
  unfold bD wal opn
  split
  · rfl
  · split <;> rfl

theorem e_beside (s : List Int) (e : Int) (r : D) (i j : Nat) (h1 : i < s.length) (h2 : j < s.length) : F_beside [some (rowD s e r), some (.int i), some (.int j)] = .ok (.tup [aD s e i, bD s e j], [some (rowD s e r), some (.int i), some (.int j)]) := by
  unfold F_beside m_beside
  have e1 : (if 0 < i then some (D.int (s.getD (i - 1) 0)) else none) = none ∨ True := .inr trivial
  by_cases c : 0 < i
  · obtain ⟨i, rfl⟩ : ∃ k, i = k + 1 := ⟨i - 1, by omega⟩
    have c0 : (0 : Int) < (i : Int) + 1 := by omega
    have hi : i < s.length := by omega
    have ea : aD s e (i + 1) = .int s[i] := by simp [aD, List.getD_eq_getElem?_getD, hi]
    by_cases c2 : j + 1 < s.length
    · have c3 : (j : Int) + 1 < s.length := by omega
      have eb : bD s e j = .int s[j + 1] := by simp [bD, c2, List.getD_eq_getElem?_getD]
      simp [b_ok, b_stuck, b_exc, a_def, f_ok, f_exc, k_rt, k_nx, a_do, a_set, a_set2, a_drop, a_ret, a_unp, a_seq, k_seq, k_seqr, k_seqb, k_seqc, a_op, k_op, a_c, a_var, a_b, k_b, a_then, k_and1, k_and0, k_or1, k_or0, k_andV1, k_andV0, k_orV1, k_orV0, k_if1, k_if0, k_ifS1, k_ifS0, k_ifT1, k_ifT0, k_notV, k_not, a_yes, a_no, a_next, a_never, a_par, k_par, a_for, k_for, a_i1, k_i1, a_io, k_io, a_call, k_call, a_callP, k_callP, a_chain, k_chain, a_mut, k_mut, a_sto, k_sto, a_lc, k_lc, a_new, a_gN, a_gT, d_lt, d_le, d_gt, d_ge, d_intB, ev, rds, chk, pAny, pTup, pInt, takeA, wbE, permL, padE, outE, gNs, own_int, own_bl, own_str, own_non, own_tup, own_ins, own_frl, own_lst, own_dic, dTup, dLst, dAdd, dSub, dMulS, dDiv, dMod, dNeg, dInt, dAbs, dIsN, dNotN, D.isNon, dLen, dItems, dIx, dTru, D.tru, D.seq, fSetL, fAppend, sizeLine_eq, rg1, rg2, rg3, rg4, rg5, rg6, rg7, rg8, a_raise, k_raise, a_par3, k_par3, a_try, kt_ok, kt_exc, hdl, sEnd, dropN, inR, dRev, a_fz, k_fzL, k_fzF, k_fzT, a_fzS, k_fzS, f_stones, f_ends, own_row, atI_nat, atI_succ, c0, c3, c2, ea, eb, List.getElem?_eq_getElem, hi]
    · have c3 : ¬ (j : Int) + 1 < s.length := by omega
      by_cases c4 : 2 ≤ e
      · have eb : bD s e j = wal := by simp [bD, c2, c4]
        simp [b_ok, b_stuck, b_exc, a_def, f_ok, f_exc, k_rt, k_nx, a_do, a_set, a_set2, a_drop, a_ret, a_unp, a_seq, k_seq, k_seqr, k_seqb, k_seqc, a_op, k_op, a_c, a_var, a_b, k_b, a_then, k_and1, k_and0, k_or1, k_or0, k_andV1, k_andV0, k_orV1, k_orV0, k_if1, k_if0, k_ifS1, k_ifS0, k_ifT1, k_ifT0, k_notV, k_not, a_yes, a_no, a_next, a_never, a_par, k_par, a_for, k_for, a_i1, k_i1, a_io, k_io, a_call, k_call, a_callP, k_callP, a_chain, k_chain, a_mut, k_mut, a_sto, k_sto, a_lc, k_lc, a_new, a_gN, a_gT, d_lt, d_le, d_gt, d_ge, d_intB, ev, rds, chk, pAny, pTup, pInt, takeA, wbE, permL, padE, outE, gNs, own_int, own_bl, own_str, own_non, own_tup, own_ins, own_frl, own_lst, own_dic, dTup, dLst, dAdd, dSub, dMulS, dDiv, dMod, dNeg, dInt, dAbs, dIsN, dNotN, D.isNon, dLen, dItems, dIx, dTru, D.tru, D.seq, fSetL, fAppend, sizeLine_eq, rg1, rg2, rg3, rg4, rg5, rg6, rg7, rg8, a_raise, k_raise, a_par3, k_par3, a_try, kt_ok, kt_exc, hdl, sEnd, dropN, inR, dRev, a_fz, k_fzL, k_fzF, k_fzT, a_fzS, k_fzS, f_stones, f_ends, own_row, atI_nat, atI_succ, c0, c3, c2, c4, ea, eb, List.getElem?_eq_getElem, hi, wal]
      · have eb : bD s e j = opn := by simp [bD, c2, c4]
        simp [b_ok, b_stuck, b_exc, a_def, f_ok, f_exc, k_rt, k_nx, a_do, a_set, a_set2, a_drop, a_ret, a_unp, a_seq, k_seq, k_seqr, k_seqb, k_seqc, a_op, k_op, a_c, a_var, a_b, k_b, a_then, k_and1, k_and0, k_or1, k_or0, k_andV1, k_andV0, k_orV1, k_orV0, k_if1, k_if0, k_ifS1, k_ifS0, k_ifT1, k_ifT0, k_notV, k_not, a_yes, a_no, a_next, a_never, a_par, k_par, a_for, k_for, a_i1, k_i1, a_io, k_io, a_call, k_call, a_callP, k_callP, a_chain, k_chain, a_mut, k_mut, a_sto, k_sto, a_lc, k_lc, a_new, a_gN, a_gT, d_lt, d_le, d_gt, d_ge, d_intB, ev, rds, chk, pAny, pTup, pInt, takeA, wbE, permL, padE, outE, gNs, own_int, own_bl, own_str, own_non, own_tup, own_ins, own_frl, own_lst, own_dic, dTup, dLst, dAdd, dSub, dMulS, dDiv, dMod, dNeg, dInt, dAbs, dIsN, dNotN, D.isNon, dLen, dItems, dIx, dTru, D.tru, D.seq, fSetL, fAppend, sizeLine_eq, rg1, rg2, rg3, rg4, rg5, rg6, rg7, rg8, a_raise, k_raise, a_par3, k_par3, a_try, kt_ok, kt_exc, hdl, sEnd, dropN, inR, dRev, a_fz, k_fzL, k_fzF, k_fzT, a_fzS, k_fzS, f_stones, f_ends, own_row, atI_nat, atI_succ, c0, c3, c2, c4, ea, eb, List.getElem?_eq_getElem, hi, opn]
  · obtain rfl : i = 0 := by omega
    by_cases c5 : e = 1 ∨ e = 3
    · have ea : aD s e 0 = wal := by simp [aD, c5]
      by_cases c2 : j + 1 < s.length
      · have c3 : (j : Int) + 1 < s.length := by omega
        have eb : bD s e j = .int s[j + 1] := by simp [bD, c2, List.getD_eq_getElem?_getD]
        simp [b_ok, b_stuck, b_exc, a_def, f_ok, f_exc, k_rt, k_nx, a_do, a_set, a_set2, a_drop, a_ret, a_unp, a_seq, k_seq, k_seqr, k_seqb, k_seqc, a_op, k_op, a_c, a_var, a_b, k_b, a_then, k_and1, k_and0, k_or1, k_or0, k_andV1, k_andV0, k_orV1, k_orV0, k_if1, k_if0, k_ifS1, k_ifS0, k_ifT1, k_ifT0, k_notV, k_not, a_yes, a_no, a_next, a_never, a_par, k_par, a_for, k_for, a_i1, k_i1, a_io, k_io, a_call, k_call, a_callP, k_callP, a_chain, k_chain, a_mut, k_mut, a_sto, k_sto, a_lc, k_lc, a_new, a_gN, a_gT, d_lt, d_le, d_gt, d_ge, d_intB, ev, rds, chk, pAny, pTup, pInt, takeA, wbE, permL, padE, outE, gNs, own_int, own_bl, own_str, own_non, own_tup, own_ins, own_frl, own_lst, own_dic, dTup, dLst, dAdd, dSub, dMulS, dDiv, dMod, dNeg, dInt, dAbs, dIsN, dNotN, D.isNon, dLen, dItems, dIx, dTru, D.tru, D.seq, fSetL, fAppend, sizeLine_eq, rg1, rg2, rg3, rg4, rg5, rg6, rg7, rg8, a_raise, k_raise, a_par3, k_par3, a_try, kt_ok, kt_exc, hdl, sEnd, dropN, inR, dRev, a_fz, k_fzL, k_fzF, k_fzT, a_fzS, k_fzS, f_stones, f_ends, own_row, atI_nat, atI_succ, c3, c2, ea, eb, c5, List.getElem?_eq_getElem, wal, in_2]
      · have c3 : ¬ (j : Int) + 1 < s.length := by omega
        by_cases c4 : 2 ≤ e
        · have eb : bD s e j = wal := by simp [bD, c2, c4]
          simp [b_ok, b_stuck, b_exc, a_def, f_ok, f_exc, k_rt, k_nx, a_do, a_set, a_set2, a_drop, a_ret, a_unp, a_seq, k_seq, k_seqr, k_seqb, k_seqc, a_op, k_op, a_c, a_var, a_b, k_b, a_then, k_and1, k_and0, k_or1, k_or0, k_andV1, k_andV0, k_orV1, k_orV0, k_if1, k_if0, k_ifS1, k_ifS0, k_ifT1, k_ifT0, k_notV, k_not, a_yes, a_no, a_next, a_never, a_par, k_par, a_for, k_for, a_i1, k_i1, a_io, k_io, a_call, k_call, a_callP, k_callP, a_chain, k_chain, a_mut, k_mut, a_sto, k_sto, a_lc, k_lc, a_new, a_gN, a_gT, d_lt, d_le, d_gt, d_ge, d_intB, ev, rds, chk, pAny, pTup, pInt, takeA, wbE, permL, padE, outE, gNs, own_int, own_bl, own_str, own_non, own_tup, own_ins, own_frl, own_lst, own_dic, dTup, dLst, dAdd, dSub, dMulS, dDiv, dMod, dNeg, dInt, dAbs, dIsN, dNotN, D.isNon, dLen, dItems, dIx, dTru, D.tru, D.seq, fSetL, fAppend, sizeLine_eq, rg1, rg2, rg3, rg4, rg5, rg6, rg7, rg8, a_raise, k_raise, a_par3, k_par3, a_try, kt_ok, kt_exc, hdl, sEnd, dropN, inR, dRev, a_fz, k_fzL, k_fzF, k_fzT, a_fzS, k_fzS, f_stones, f_ends, own_row, atI_nat, atI_succ, c3, c2, c4, ea, eb, c5, wal, in_2]
        · have eb : bD s e j = opn := by simp [bD, c2, c4]
          simp [b_ok, b_stuck, b_exc, a_def, f_ok, f_exc, k_rt, k_nx, a_do, a_set, a_set2, a_drop, a_ret, a_unp, a_seq, k_seq, k_seqr, k_seqb, k_seqc, a_op, k_op, a_c, a_var, a_b, k_b, a_then, k_and1, k_and0, k_or1, k_or0, k_andV1, k_andV0, k_orV1, k_orV0, k_if1, k_if0, k_ifS1, k_ifS0, k_ifT1, k_ifT0, k_notV, k_not, a_yes, a_no, a_next, a_never, a_par, k_par, a_for, k_for, a_i1, k_i1, a_io, k_io, a_call, k_call, a_callP, k_callP, a_chain, k_chain, a_mut, k_mut, a_sto, k_sto, a_lc, k_lc, a_new, a_gN, a_gT, d_lt, d_le, d_gt, d_ge, d_intB, ev, rds, chk, pAny, pTup, pInt, takeA, wbE, permL, padE, outE, gNs, own_int, own_bl, own_str, own_non, own_tup, own_ins, own_frl, own_lst, own_dic, dTup, dLst, dAdd, dSub, dMulS, dDiv, dMod, dNeg, dInt, dAbs, dIsN, dNotN, D.isNon, dLen, dItems, dIx, dTru, D.tru, D.seq, fSetL, fAppend, sizeLine_eq, rg1, rg2, rg3, rg4, rg5, rg6, rg7, rg8, a_raise, k_raise, a_par3, k_par3, a_try, kt_ok, kt_exc, hdl, sEnd, dropN, inR, dRev, a_fz, k_fzL, k_fzF, k_fzT, a_fzS, k_fzS, f_stones, f_ends, own_row, atI_nat, atI_succ, c3, c2, c4, ea, eb, c5, opn, wal, in_2]
    · have ea : aD s e 0 = opn := by simp [aD, c5]
      by_cases c2 : j + 1 < s.length
      · have c3 : (j : Int) + 1 < s.length := by omega
        have eb : bD s e j = .int s[j + 1] := by simp [bD, c2, List.getD_eq_getElem?_getD]
        simp [b_ok, b_stuck, b_exc, a_def, f_ok, f_exc, k_rt, k_nx, a_do, a_set, a_set2, a_drop, a_ret, a_unp, a_seq, k_seq, k_seqr, k_seqb, k_seqc, a_op, k_op, a_c, a_var, a_b, k_b, a_then, k_and1, k_and0, k_or1, k_or0, k_andV1, k_andV0, k_orV1, k_orV0, k_if1, k_if0, k_ifS1, k_ifS0, k_ifT1, k_ifT0, k_notV, k_not, a_yes, a_no, a_next, a_never, a_par, k_par, a_for, k_for, a_i1, k_i1, a_io, k_io, a_call, k_call, a_callP, k_callP, a_chain, k_chain, a_mut, k_mut, a_sto, k_sto, a_lc, k_lc, a_new, a_gN, a_gT, d_lt, d_le, d_gt, d_ge, d_intB, ev, rds, chk, pAny, pTup, pInt, takeA, wbE, permL, padE, outE, gNs, own_int, own_bl, own_str, own_non, own_tup, own_ins, own_frl, own_lst, own_dic, dTup, dLst, dAdd, dSub, dMulS, dDiv, dMod, dNeg, dInt, dAbs, dIsN, dNotN, D.isNon, dLen, dItems, dIx, dTru, D.tru, D.seq, fSetL, fAppend, sizeLine_eq, rg1, rg2, rg3, rg4, rg5, rg6, rg7, rg8, a_raise, k_raise, a_par3, k_par3, a_try, kt_ok, kt_exc, hdl, sEnd, dropN, inR, dRev, a_fz, k_fzL, k_fzF, k_fzT, a_fzS, k_fzS, f_stones, f_ends, own_row, atI_nat, atI_succ, c3, c2, ea, eb, c5, List.getElem?_eq_getElem, opn, in_2]
      · have c3 : ¬ (j : Int) + 1 < s.length := by omega
        by_cases c4 : 2 ≤ e
        · have eb : bD s e j = wal := by simp [bD, c2, c4]
          simp [b_ok, b_stuck, b_exc, a_def, f_ok, f_exc, k_rt, k_nx, a_do, a_set, a_set2, a_drop, a_ret, a_unp, a_seq, k_seq, k_seqr, k_seqb, k_seqc, a_op, k_op, a_c, a_var, a_b, k_b, a_then, k_and1, k_and0, k_or1, k_or0, k_andV1, k_andV0, k_orV1, k_orV0, k_if1, k_if0, k_ifS1, k_ifS0, k_ifT1, k_ifT0, k_notV, k_not, a_yes, a_no, a_next, a_never, a_par, k_par, a_for, k_for, a_i1, k_i1, a_io, k_io, a_call, k_call, a_callP, k_callP, a_chain, k_chain, a_mut, k_mut, a_sto, k_sto, a_lc, k_lc, a_new, a_gN, a_gT, d_lt, d_le, d_gt, d_ge, d_intB, ev, rds, chk, pAny, pTup, pInt, takeA, wbE, permL, padE, outE, gNs, own_int, own_bl, own_str, own_non, own_tup, own_ins, own_frl, own_lst, own_dic, dTup, dLst, dAdd, dSub, dMulS, dDiv, dMod, dNeg, dInt, dAbs, dIsN, dNotN, D.isNon, dLen, dItems, dIx, dTru, D.tru, D.seq, fSetL, fAppend, sizeLine_eq, rg1, rg2, rg3, rg4, rg5, rg6, rg7, rg8, a_raise, k_raise, a_par3, k_par3, a_try, kt_ok, kt_exc, hdl, sEnd, dropN, inR, dRev, a_fz, k_fzL, k_fzF, k_fzT, a_fzS, k_fzS, f_stones, f_ends, own_row, atI_nat, atI_succ, c3, c2, c4, ea, eb, c5, wal, opn, in_2]
        · have eb : bD s e j = opn := by simp [bD, c2, c4]
          simp [b_ok, b_stuck, b_exc, a_def, f_ok, f_exc, k_rt, k_nx, a_do, a_set, a_set2, a_drop, a_ret, a_unp, a_seq, k_seq, k_seqr, k_seqb, k_seqc, a_op, k_op, a_c, a_var, a_b, k_b, a_then, k_and1, k_and0, k_or1, k_or0, k_andV1, k_andV0, k_orV1, k_orV0, k_if1, k_if0, k_ifS1, k_ifS0, k_ifT1, k_ifT0, k_notV, k_not, a_yes, a_no, a_next, a_never, a_par, k_par, a_for, k_for, a_i1, k_i1, a_io, k_io, a_call, k_call, a_callP, k_callP, a_chain, k_chain, a_mut, k_mut, a_sto, k_sto, a_lc, k_lc, a_new, a_gN, a_gT, d_lt, d_le, d_gt, d_ge, d_intB, ev, rds, chk, pAny, pTup, pInt, takeA, wbE, permL, padE, outE, gNs, own_int, own_bl, own_str, own_non, own_tup, own_ins, own_frl, own_lst, own_dic, dTup, dLst, dAdd, dSub, dMulS, dDiv, dMod, dNeg, dInt, dAbs, dIsN, dNotN, D.isNon, dLen, dItems, dIx, dTru, D.tru, D.seq, fSetL, fAppend, sizeLine_eq, rg1, rg2, rg3, rg4, rg5, rg6, rg7, rg8, a_raise, k_raise, a_par3, k_par3, a_try, kt_ok, kt_exc, hdl, sEnd, dropN, inR, dRev, a_fz, k_fzL, k_fzF, k_fzT, a_fzS, k_fzS, f_stones, f_ends, own_row, atI_nat, atI_succ, c3, c2, c4, ea, eb, c5, opn, in_2]

theorem dn_le {s : List Int} {x : Int} : ∀ i, dn s x i ≤ i
  | 0 => Nat.le_refl _
  | i + 1 => by
    unfold dn
    split
    · exact Nat.le_succ_of_le (dn_le i)
    · exact Nat.le_refl _

theorem up_lt {s : List Int} {x : Int} : ∀ k i, i < s.length → up s x k i < s.length
  | 0, i, h => h
  | k + 1, i, h => by
    unfold up
    split
    · rename_i c; exact up_lt k (i + 1) c.1
    · exact h

theorem up_ge {s : List Int} {x : Int} : ∀ k i, i ≤ up s x k i
  | 0, i => Nat.le_refl _
  | k + 1, i => by
    unfold up
    split
    · exact Nat.le_trans (Nat.le_succ i) (up_ge k (i + 1))
    · exact Nat.le_refl _

theorem lo_lt {s : List Int} {x : Int} (h : x ∈ s) : lo s x < s.length := Nat.lt_of_le_of_lt (dn_le _) (ixOf_lt h)

theorem hi_lt {s : List Int} {x : Int} (h : x ∈ s) : hi s x < s.length := up_lt _ _ (ixOf_lt h)

theorem lo_hi {s : List Int} {x : Int} : lo s x ≤ hi s x := Nat.le_trans (dn_le _) (up_ge _ _)

def opA (e : Int) (i : Nat) : Bool := decide (i = 0 ∧ e ≠ 1 ∧ e ≠ 3)

def opB (s : List Int) (e : Int) (j : Nat) : Bool := decide (¬ j + 1 < s.length ∧ e < 2)

def flag (s : List Int) (e x : Int) : Bool := opA e (lo s x) || opB s e (hi s x)

theorem in_open (s : List Int) (e : Int) (i j : Nat) : dInA false [.str "open", .tup [aD s e i, bD s e j]] = some (.bl (opA e i || opB s e j)) := by
  have w : ((Str.ofString "wall") == (Str.ofString "open")) = false := by decide +kernel
  have ha : ∃ v, (aD s e i).fl = some v ∧ L2.eqV v (.str "open") = opA e i := by
    unfold aD opA
    by_cases c : 0 < i
    · rw [if_pos c]; exact ⟨_, rfl, by simp [L2.eqV]; omega⟩
    · rw [if_neg c]
      by_cases c2 : e = 1 ∨ e = 3
      · rw [if_pos c2]; exact ⟨_, rfl, by simp [L2.eqV, w]; omega⟩
      · rw [if_neg c2]; exact ⟨_, rfl, by simp [L2.eqV]; omega⟩
  have hb : ∃ v, (bD s e j).fl = some v ∧ L2.eqV v (.str "open") = opB s e j := by
    unfold bD opB
    by_cases c : j + 1 < s.length
    · rw [if_pos c]; exact ⟨_, rfl, by simp [L2.eqV]; omega⟩
    · rw [if_neg c]
      by_cases c2 : 2 ≤ e
      · rw [if_pos c2]; exact ⟨_, rfl, by simp [L2.eqV, w]; omega⟩
      · rw [if_neg c2]; exact ⟨_, rfl, by simp [L2.eqV]; omega⟩
  obtain ⟨v, e1, e2⟩ := ha
  obtain ⟨u, e3, e4⟩ := hb
  simp [dInA, dInF, fl_str, dItems, TV.fls, e1, e3, L2.inV, e2, e4]

theorem e_has_flag (s : List Int) (e : Int) (r : D) (x : Int) (hx : x ∈ s) (hl : s.length ≤ 40) : F_has_flag [some (rowD s e r), some (.int x)] = .ok (.bl (flag s e x), [some (rowD s e r), some (.int x)]) := by
  unfold F_has_flag m_has_flag
  simp [b_ok, b_stuck, b_exc, a_def, f_ok, f_exc, k_rt, k_nx, a_do, a_set, a_set2, a_drop, a_ret, a_unp, a_seq, k_seq, k_seqr, k_seqb, k_seqc, a_op, k_op, a_c, a_var, a_b, k_b, a_then, k_and1, k_and0, k_or1, k_or0, k_andV1, k_andV0, k_orV1, k_orV0, k_if1, k_if0, k_ifS1, k_ifS0, k_ifT1, k_ifT0, k_notV, k_not, a_yes, a_no, a_next, a_never, a_par, k_par, a_for, k_for, a_i1, k_i1, a_io, k_io, a_call, k_call, a_callP, k_callP, a_chain, k_chain, a_mut, k_mut, a_sto, k_sto, a_lc, k_lc, a_new, a_gN, a_gT, d_lt, d_le, d_gt, d_ge, d_intB, ev, rds, chk, pAny, pTup, pInt, takeA, wbE, permL, padE, outE, gNs, own_int, own_bl, own_str, own_non, own_tup, own_ins, own_frl, own_lst, own_dic, dTup, dLst, dAdd, dSub, dMulS, dDiv, dMod, dNeg, dInt, dAbs, dIsN, dNotN, D.isNon, dLen, dItems, dIx, dTru, D.tru, D.seq, fSetL, fAppend, sizeLine_eq, rg1, rg2, rg3, rg4, rg5, rg6, rg7, rg8, a_raise, k_raise, a_par3, k_par3, a_try, kt_ok, kt_exc, hdl, sEnd, dropN, inR, dRev, a_fz, k_fzL, k_fzF, k_fzT, a_fzS, k_fzS, own_row, e_span, hx, hl, e_beside, lo_lt, hi_lt, in_open, flag]

theorem e_length_of (s : List Int) (e : Int) (r : D) (x : Int) (hx : x ∈ s) (hl : s.length ≤ 40) : F_length_of [some (rowD s e r), some (.int x)] = .ok (.int ((hi s x : Int) - lo s x + 1), [some (rowD s e r), some (.int x)]) := by
  unfold F_length_of m_length_of
  simp [b_ok, b_stuck, b_exc, a_def, f_ok, f_exc, k_rt, k_nx, a_do, a_set, a_set2, a_drop, a_ret, a_unp, a_seq, k_seq, k_seqr, k_seqb, k_seqc, a_op, k_op, a_c, a_var, a_b, k_b, a_then, k_and1, k_and0, k_or1, k_or0, k_andV1, k_andV0, k_orV1, k_orV0, k_if1, k_if0, k_ifS1, k_ifS0, k_ifT1, k_ifT0, k_notV, k_not, a_yes, a_no, a_next, a_never, a_par, k_par, a_for, k_for, a_i1, k_i1, a_io, k_io, a_call, k_call, a_callP, k_callP, a_chain, k_chain, a_mut, k_mut, a_sto, k_sto, a_lc, k_lc, a_new, a_gN, a_gT, d_lt, d_le, d_gt, d_ge, d_intB, ev, rds, chk, pAny, pTup, pInt, takeA, wbE, permL, padE, outE, gNs, own_int, own_bl, own_str, own_non, own_tup, own_ins, own_frl, own_lst, own_dic, dTup, dLst, dAdd, dSub, dMulS, dDiv, dMod, dNeg, dInt, dAbs, dIsN, dNotN, D.isNon, dLen, dItems, dIx, dTru, D.tru, D.seq, fSetL, fAppend, sizeLine_eq, rg1, rg2, rg3, rg4, rg5, rg6, rg7, rg8, a_raise, k_raise, a_par3, k_par3, a_try, kt_ok, kt_exc, hdl, sEnd, dropN, inR, dRev, a_fz, k_fzL, k_fzF, k_fzT, a_fzS, k_fzS, own_row, e_span, hx, hl]

def head (s : List Int) (e x : Int) : Bool := decide (2 ≤ (hi s x : Int) - lo s x + 1) && !flag s e x

theorem e_is_head (s : List Int) (e : Int) (r : D) (x : Int) (hx : x ∈ s) (hl : s.length ≤ 40) : F_is_head [some (rowD s e r), some (.int x)] = .ok (.bl (head s e x), [some (rowD s e r), some (.int x)]) := by
  unfold F_is_head m_is_head
  have i1 := in_ints x s
  by_cases c : 2 ≤ (hi s x : Int) - lo s x + 1
  · simp [b_ok, b_stuck, b_exc, a_def, f_ok, f_exc, k_rt, k_nx, a_do, a_set, a_set2, a_drop, a_ret, a_unp, a_seq, k_seq, k_seqr, k_seqb, k_seqc, a_op, k_op, a_c, a_var, a_b, k_b, a_then, k_and1, k_and0, k_or1, k_or0, k_andV1, k_andV0, k_orV1, k_orV0, k_if1, k_if0, k_ifS1, k_ifS0, k_ifT1, k_ifT0, k_notV, k_not, a_yes, a_no, a_next, a_never, a_par, k_par, a_for, k_for, a_i1, k_i1, a_io, k_io, a_call, k_call, a_callP, k_callP, a_chain, k_chain, a_mut, k_mut, a_sto, k_sto, a_lc, k_lc, a_new, a_gN, a_gT, d_lt, d_le, d_gt, d_ge, d_intB, ev, rds, chk, pAny, pTup, pInt, takeA, wbE, permL, padE, outE, gNs, own_int, own_bl, own_str, own_non, own_tup, own_ins, own_frl, own_lst, own_dic, dTup, dLst, dAdd, dSub, dMulS, dDiv, dMod, dNeg, dInt, dAbs, dIsN, dNotN, D.isNon, dLen, dItems, dIx, dTru, D.tru, D.seq, fSetL, fAppend, sizeLine_eq, rg1, rg2, rg3, rg4, rg5, rg6, rg7, rg8, a_raise, k_raise, a_par3, k_par3, a_try, kt_ok, kt_exc, hdl, sEnd, dropN, inR, dRev, a_fz, k_fzL, k_fzF, k_fzT, a_fzS, k_fzS, own_row, hx, hl, f_stones, i1, e_length_of, e_has_flag, c, head]
  · simp [b_ok, b_stuck, b_exc, a_def, f_ok, f_exc, k_rt, k_nx, a_do, a_set, a_set2, a_drop, a_ret, a_unp, a_seq, k_seq, k_seqr, k_seqb, k_seqc, a_op, k_op, a_c, a_var, a_b, k_b, a_then, k_and1, k_and0, k_or1, k_or0, k_andV1, k_andV0, k_orV1, k_orV0, k_if1, k_if0, k_ifS1, k_ifS0, k_ifT1, k_ifT0, k_notV, k_not, a_yes, a_no, a_next, a_never, a_par, k_par, a_for, k_for, a_i1, k_i1, a_io, k_io, a_call, k_call, a_callP, k_callP, a_chain, k_chain, a_mut, k_mut, a_sto, k_sto, a_lc, k_lc, a_new, a_gN, a_gT, d_lt, d_le, d_gt, d_ge, d_intB, ev, rds, chk, pAny, pTup, pInt, takeA, wbE, permL, padE, outE, gNs, own_int, own_bl, own_str, own_non, own_tup, own_ins, own_frl, own_lst, own_dic, dTup, dLst, dAdd, dSub, dMulS, dDiv, dMod, dNeg, dInt, dAbs, dIsN, dNotN, D.isNon, dLen, dItems, dIx, dTru, D.tru, D.seq, fSetL, fAppend, sizeLine_eq, rg1, rg2, rg3, rg4, rg5, rg6, rg7, rg8, a_raise, k_raise, a_par3, k_par3, a_try, kt_ok, kt_exc, hdl, sEnd, dropN, inR, dRev, a_fz, k_fzL, k_fzF, k_fzT, a_fzS, k_fzS, own_row, hx, hl, f_stones, i1, e_length_of, e_has_flag, c, head]

theorem lc_run {vs : List Nat} {i : Nat} {t : MT} {u : ME} {b : D → Bool} {g : D → D} {ρ : TV.Env} : ∀ (ds acc : List D), (∀ d ∈ ds, t (ρ.set i (some d)) = .ok (b d, ρ.set i (some d)) ∧ (b d = true → u (ρ.set i (some d)) = .ok (g d, ρ.set i (some d)) ∧ (g d).own = false) ∧ wipeE (ρ.set i (some d)) vs = ρ) → acc.length + ds.length ≤ sizeLine →
    lcL vs (gN i) t u ds ρ acc = .ok (.lst (acc ++ (ds.filter b).map g), ρ)
  | [], acc, _, _ => by simp [lcL]
  | d :: ds, acc, h, hz => by
    obtain ⟨h1, h2, h3⟩ := h d List.mem_cons_self
    have hr := fun d' hd => h d' (List.mem_cons_of_mem _ hd)
    rw [List.length_cons] at hz
    unfold lcL
    cases c : b d with
    | true =>
      obtain ⟨h4, h5⟩ := h2 c
      simp only [a_gN, h1, c, h4, h5, h3]
      rw [if_pos ⟨trivial, by omega⟩, lc_run ds (acc ++ [g d]) hr (by rw [List.length_append, List.length_cons, List.length_nil]; omega)]
      simp [c]
    | false =>
      simp only [a_gN, h1, c, h3]
      rw [lc_run ds acc hr (by omega)]
      simp [c]

theorem sort_tup (s : List Int) : dSort [.tup (s.map .int)] = some (.lst ((sortI s).map .int)) := by
  simp [dSort, dOr, dSortL, dLInts, dSortT, dTInts, dInts_map]

def heads (s : List Int) (e : Int) : List Int := (sortI s).filter (head s e)

theorem heads_mem {s : List Int} {e x : Int} (h : x ∈ heads s e) : x ∈ s := (sortI_perm s).mem_iff.mp (List.mem_filter.mp h).1

theorem sortI_len (s : List Int) : (sortI s).length = s.length := (sortI_perm s).length_eq

theorem e_heads (s : List Int) (e : Int) (r : D) (hl : s.length ≤ 40) : F_heads [some (rowD s e r)] = .ok (.tup ((heads s e).map .int), [some (rowD s e r)]) := by
  unfold F_heads m_heads
  have lc := lc_run (vs := [1]) (i := 1) (t := mB (mOp [.tmp (mCall [.var 0 pAny, .var 1 pAny] F_is_head) pAny] dTru)) (u := mVar 1) (ρ := [some (rowD s e r), none])
    (b := fun d => match d with | .int x => head s e x | _ => false) (g := id) ((sortI s).map D.int) [] (fun d hd => ?_) (by simp [sortI_len, sizeLine_eq]; omega)
  · simp [b_ok, b_stuck, b_exc, a_def, f_ok, f_exc, k_rt, k_nx, a_do, a_set, a_set2, a_drop, a_ret, a_unp, a_seq, k_seq, k_seqr, k_seqb, k_seqc, a_op, k_op, a_c, a_var, a_b, k_b, a_then, k_and1, k_and0, k_or1, k_or0, k_andV1, k_andV0, k_orV1, k_orV0, k_if1, k_if0, k_ifS1, k_ifS0, k_ifT1, k_ifT0, k_notV, k_not, a_yes, a_no, a_next, a_never, a_par, k_par, a_for, k_for, a_i1, k_i1, a_io, k_io, a_call, k_call, a_callP, k_callP, a_chain, k_chain, a_mut, k_mut, a_sto, k_sto, a_lc, k_lc, a_new, a_gN, a_gT, d_lt, d_le, d_gt, d_ge, d_intB, ev, rds, chk, pAny, pTup, pInt, takeA, wbE, permL, padE, outE, gNs, own_int, own_bl, own_str, own_non, own_tup, own_ins, own_frl, own_lst, own_dic, dTup, dLst, dAdd, dSub, dMulS, dDiv, dMod, dNeg, dInt, dAbs, dIsN, dNotN, D.isNon, dLen, dItems, dIx, dTru, D.tru, D.seq, fSetL, fAppend, sizeLine_eq, rg1, rg2, rg3, rg4, rg5, rg6, rg7, rg8, a_raise, k_raise, a_par3, k_par3, a_try, kt_ok, kt_exc, hdl, sEnd, dropN, inR, dRev, a_fz, k_fzL, k_fzF, k_fzT, a_fzS, k_fzS, own_row, f_stones, sort_tup, wipeE, lc, dTupOf, heads, List.filter_map]
    congr 2
  · obtain ⟨x, hx, rfl⟩ := List.mem_map.mp hd
    have hx := (sortI_perm s).mem_iff.mp hx
    simp [b_ok, b_stuck, b_exc, a_def, f_ok, f_exc, k_rt, k_nx, a_do, a_set, a_set2, a_drop, a_ret, a_unp, a_seq, k_seq, k_seqr, k_seqb, k_seqc, a_op, k_op, a_c, a_var, a_b, k_b, a_then, k_and1, k_and0, k_or1, k_or0, k_andV1, k_andV0, k_orV1, k_orV0, k_if1, k_if0, k_ifS1, k_ifS0, k_ifT1, k_ifT0, k_notV, k_not, a_yes, a_no, a_next, a_never, a_par, k_par, a_for, k_for, a_i1, k_i1, a_io, k_io, a_call, k_call, a_callP, k_callP, a_chain, k_chain, a_mut, k_mut, a_sto, k_sto, a_lc, k_lc, a_new, a_gN, a_gT, d_lt, d_le, d_gt, d_ge, d_intB, ev, rds, chk, pAny, pTup, pInt, takeA, wbE, permL, padE, outE, gNs, own_int, own_bl, own_str, own_non, own_tup, own_ins, own_frl, own_lst, own_dic, dTup, dLst, dAdd, dSub, dMulS, dDiv, dMod, dNeg, dInt, dAbs, dIsN, dNotN, D.isNon, dLen, dItems, dIx, dTru, D.tru, D.seq, fSetL, fAppend, sizeLine_eq, rg1, rg2, rg3, rg4, rg5, rg6, rg7, rg8, a_raise, k_raise, a_par3, k_par3, a_try, kt_ok, kt_exc, hdl, sEnd, dropN, inR, dRev, a_fz, k_fzL, k_fzF, k_fzT, a_fzS, k_fzS, own_row, e_is_head, hx, hl, wipeE]

def rD : Option (List Int) → D
  | none => .non
  | some l => .tup (l.map .int)

theorem rD_own (r : Option (List Int)) : (rD r).own = false := by cases r <;> rfl

def letsB (r : Option (List Int)) (n : Int) : Bool := match r with
  | none => true
  | some l => decide (n ∈ l)

def len (s : List Int) (x : Int) : Int := (hi s x : Int) - lo s x + 1

def free (s : List Int) (e : Int) (r : Option (List Int)) : List Int := (heads s e).filter fun x => letsB r (len s x)

theorem free_mem {s : List Int} {e : Int} {r : Option (List Int)} {x : Int} (h : x ∈ free s e r) : x ∈ s := heads_mem (List.mem_filter.mp h).1

theorem heads_len (s : List Int) (e : Int) : (heads s e).length ≤ s.length := by
  rw [← sortI_len s]
  exact List.length_filter_le _ _

theorem free_len (s : List Int) (e : Int) (r : Option (List Int)) : (free s e r).length ≤ s.length := Nat.le_trans (List.length_filter_le _ _) (heads_len s e)

def spanP (s : List Int) (x : Int) : Int × Int := (lo s x, hi s x)

theorem dPairs_map : ∀ ps : List (Int × Int), dPairs (ps.map pD) = some ps
  | [] => rfl
  | p :: ps => by simp [dPairs, dPair, pD, dPairs_map ps]

theorem dInts_pairs {p : Int × Int} {ps : List (Int × Int)} : dInts ((p :: ps).map pD) = none := rfl

theorem sort_pairs (ps : List (Int × Int)) : dSort [.lst (ps.map pD)] = some (.lst ((sortP ps).map pD)) := by
  cases ps with
  | nil => rfl
  | cons p ps => simp only [dSort, dOr, dSortL, dLInts, dInts_pairs, dSortT, dTInts, dSortK, dSortP, dPairs_map, Option.map]

theorem sort_pairs2 (l : List Int) (f : Int → Int × Int) : dSort [.lst (l.map (pD ∘ f))] = some (.lst ((sortP (l.map f)).map pD)) := by
  rw [← List.map_map]
  exact sort_pairs _

end K58

namespace K58
open PySem TV
theorem for_inv {tg : D → TV.Env → R TV.Env} {b : MS} {I : Nat → TV.Env → Prop} : ∀ (ds : List D) (k : Nat) (ρ : TV.Env), (∀ j d ρ, ds[j]? = some d → I (k + j) ρ → ∃ ρ1 ρ2, tg d ρ = .ok ρ1 ∧ b ρ1 = .ok (.nx, ρ2) ∧ I (k + j + 1) ρ2) → I k ρ → ∃ ρ', forL tg b ds ρ = .ok (.nx, ρ') ∧ I (k + ds.length) ρ'
  | [], k, ρ, _, h => ⟨ρ, rfl, h⟩
  | d :: ds, k, ρ, st, h => by
    obtain ⟨ρ1, ρ2, e1, e2, h2⟩ := st 0 d ρ rfl h
    obtain ⟨ρ', e3, h3⟩ := for_inv ds (k + 1) ρ2 (fun j d' ρ0 e hI => by
      have := st (j + 1) d' ρ0 e (by rw [show k + (j + 1) = k + 1 + j by omega]; exact hI)
      rw [show k + (j + 1) + 1 = k + 1 + j + 1 by omega] at this
      exact this) h2
    refine ⟨ρ', ?_, by rw [List.length_cons, show k + (ds.length + 1) = k + 1 + ds.length by omega]; exact h3⟩
    unfold forL
    rw [e1]
    simp only [b_ok]
    rw [e2]
    exact e3

def sD (s : List Int) : D := .tup (s.map .int)

theorem sD_own (s : List Int) : (sD s).own = false := rfl

def cD (s : List Int) (e : Int) (j : Nat) : D := if j + 1 < s.length then .int (s.getD (j + 1) 0) else if e = 2 ∨ e = 3 then wal else opn

abbrev src (a b : Int) : D := .lst [.int a, .int b]

def Src (a b : Int) : Prop := 0 ≤ a ∧ 0 ≤ b ∧ b < 2147483647

theorem small_log {n : Int} (h1 : 0 < n) (h2 : n ≤ 1000000000000000000000000) : n.natAbs.log2 < 9000 := by
  have h3 : n.natAbs.log2 < 100 := (Nat.log2_lt (by omega)).mpr (by omega)
  omega

theorem at0 {α : Type} {x : α} {xs : List α} : L2.atI (x :: xs) 0 = some x := by
  have := atI_nat (xs := x :: xs) (i := 0)
  simpa using this

theorem at1 {α : Type} {x y : α} {xs : List α} : L2.atI (x :: y :: xs) 1 = some y := by
  have := atI_nat (xs := x :: y :: xs) (i := 1)
  simpa using this

theorem ix0 : L2.ixN 2 0 = some 0 := by decide

theorem ix1 : L2.ixN 2 1 = some 1 := by decide

theorem e_take (a b top : Int) (h : Src a b) (h1 : 0 < top) (h2 : top ≤ 100000000000000000000) : ∃ a' b' t, Src a' b' ∧ 0 ≤ t ∧ t < top ∧ F__law_take [some (src a b), some (.int top)] = .ok (.int t, [some (src a' b'), some (.int top)]) := by
  have l1 := small_log h1 (by omega)
  have l2 : (32 : Int).natAbs.log2 < 9000 := small_log (by decide) (by decide)
  have l3 : Nat.log2 32 < 9000 := l2
  obtain ⟨g1, g2, g3⟩ := h
  unfold F__law_take m__law_take
  by_cases c : 0 < a
  · refine ⟨a / top, b, a % top, ⟨Int.ediv_nonneg g1 (by omega), g2, g3⟩, Int.emod_nonneg _ (by omega), Int.emod_lt_of_pos _ h1, ?_⟩
    simp [b_ok, b_stuck, b_exc, a_def, f_ok, f_exc, k_rt, k_nx, a_do, a_set, a_set2, a_drop, a_ret, a_unp, a_seq, k_seq, k_seqr, k_seqb, k_seqc, a_op, k_op, a_c, a_var, a_b, k_b, a_then, k_and1, k_and0, k_or1, k_or0, k_andV1, k_andV0, k_orV1, k_orV0, k_if1, k_if0, k_ifS1, k_ifS0, k_ifT1, k_ifT0, k_notV, k_not, a_yes, a_no, a_next, a_never, a_par, k_par, a_for, k_for, a_i1, k_i1, a_io, k_io, a_call, k_call, a_callP, k_callP, a_chain, k_chain, a_mut, k_mut, a_sto, k_sto, a_lc, k_lc, a_new, a_gN, a_gT, d_lt, d_le, d_gt, d_ge, d_intB, ev, rds, chk, pAny, pTup, pInt, takeA, wbE, permL, padE, outE, gNs, own_int, own_bl, own_str, own_non, own_tup, own_ins, own_frl, own_lst, own_dic, dTup, dLst, dAdd, dSub, dMulS, dDiv, dMod, dNeg, dInt, dAbs, dIsN, dNotN, D.isNon, dLen, dItems, dIx, dTru, D.tru, D.seq, fSetL, fAppend, sizeLine_eq, rg1, rg2, rg3, rg4, rg5, rg6, rg7, rg8, a_raise, k_raise, a_par3, k_par3, a_try, kt_ok, kt_exc, hdl, sEnd, dropN, inR, dRev, a_fz, k_fzL, k_fzF, k_fzT, a_fzS, k_fzS, at0, at1, ix0, ix1, c, h1, l1, L2.CDivW]
  · refine ⟨a, (b * 39373 + 7) % 2147483647, _, ⟨g1, Int.emod_nonneg _ (by decide), Int.emod_lt_of_pos _ (by decide)⟩, Int.emod_nonneg (((b * 39373 + 7) % 2147483647 * ((b * 39373 + 7) % 2147483647)) % 2147483629 / 32) (by omega), Int.emod_lt_of_pos _ h1, ?_⟩
    have k1 : (b * 39373 + 7) % 2147483647 < 18446744073709551616 := Int.lt_trans (Int.emod_lt_of_pos _ (by decide)) (by decide)
    have k2 : -18446744073709551616 < (b * 39373 + 7) % 2147483647 := Int.lt_of_lt_of_le (by decide) (Int.emod_nonneg _ (by decide))
    simp [b_ok, b_stuck, b_exc, a_def, f_ok, f_exc, k_rt, k_nx, a_do, a_set, a_set2, a_drop, a_ret, a_unp, a_seq, k_seq, k_seqr, k_seqb, k_seqc, a_op, k_op, a_c, a_var, a_b, k_b, a_then, k_and1, k_and0, k_or1, k_or0, k_andV1, k_andV0, k_orV1, k_orV0, k_if1, k_if0, k_ifS1, k_ifS0, k_ifT1, k_ifT0, k_notV, k_not, a_yes, a_no, a_next, a_never, a_par, k_par, a_for, k_for, a_i1, k_i1, a_io, k_io, a_call, k_call, a_callP, k_callP, a_chain, k_chain, a_mut, k_mut, a_sto, k_sto, a_lc, k_lc, a_new, a_gN, a_gT, d_lt, d_le, d_gt, d_ge, d_intB, ev, rds, chk, pAny, pTup, pInt, takeA, wbE, permL, padE, outE, gNs, own_int, own_bl, own_str, own_non, own_tup, own_ins, own_frl, own_lst, own_dic, dTup, dLst, dAdd, dSub, dMulS, dDiv, dMod, dNeg, dInt, dAbs, dIsN, dNotN, D.isNon, dLen, dItems, dIx, dTru, D.tru, D.seq, fSetL, fAppend, sizeLine_eq, rg1, rg2, rg3, rg4, rg5, rg6, rg7, rg8, a_raise, k_raise, a_par3, k_par3, a_try, kt_ok, kt_exc, hdl, sEnd, dropN, inR, dRev, a_fz, k_fzL, k_fzF, k_fzT, a_fzS, k_fzS, at0, at1, ix0, ix1, c, h1, l1, l2, l3, L2.CDivW, k1, k2]

theorem e_one (a b : Int) (xs : List Int) (h : Src a b) (h1 : xs ≠ []) (h2 : xs.length ≤ 1000) : ∃ a' b' x, Src a' b' ∧ x ∈ xs ∧ F__law_one [some (src a b), some (.lst (xs.map .int))] = .ok (.int x, [some (src a' b'), some (.lst (xs.map .int))]) := by
  have hp : 0 < (xs.length : Int) := by
    cases xs with
    | nil => exact absurd rfl h1
    | cons => simp
  obtain ⟨a', b', t, hs, t1, t2, e⟩ := e_take a b xs.length h hp (by omega)
  obtain ⟨n, rfl⟩ : ∃ n : Nat, t = n := ⟨t.toNat, by omega⟩
  have hn : n < xs.length := by omega
  refine ⟨a', b', xs[n], hs, List.getElem_mem hn, ?_⟩
  unfold F__law_one m__law_one
  simp [b_ok, b_stuck, b_exc, a_def, f_ok, f_exc, k_rt, k_nx, a_do, a_set, a_set2, a_drop, a_ret, a_unp, a_seq, k_seq, k_seqr, k_seqb, k_seqc, a_op, k_op, a_c, a_var, a_b, k_b, a_then, k_and1, k_and0, k_or1, k_or0, k_andV1, k_andV0, k_orV1, k_orV0, k_if1, k_if0, k_ifS1, k_ifS0, k_ifT1, k_ifT0, k_notV, k_not, a_yes, a_no, a_next, a_never, a_par, k_par, a_for, k_for, a_i1, k_i1, a_io, k_io, a_call, k_call, a_callP, k_callP, a_chain, k_chain, a_mut, k_mut, a_sto, k_sto, a_lc, k_lc, a_new, a_gN, a_gT, d_lt, d_le, d_gt, d_ge, d_intB, ev, rds, chk, pAny, pTup, pInt, takeA, wbE, permL, padE, outE, gNs, own_int, own_bl, own_str, own_non, own_tup, own_ins, own_frl, own_lst, own_dic, dTup, dLst, dAdd, dSub, dMulS, dDiv, dMod, dNeg, dInt, dAbs, dIsN, dNotN, D.isNon, dLen, dItems, dIx, dTru, D.tru, D.seq, fSetL, fAppend, sizeLine_eq, rg1, rg2, rg3, rg4, rg5, rg6, rg7, rg8, a_raise, k_raise, a_par3, k_par3, a_try, kt_ok, kt_exc, hdl, sEnd, dropN, inR, dRev, a_fz, k_fzL, k_fzF, k_fzT, a_fzS, k_fzS, e, atI_nat, List.getElem?_eq_getElem, hn]

theorem in_not {ds : List D} {b : Bool} (h : dInA false ds = some (.bl b)) : dInA true ds = some (.bl (!b)) := by
  unfold dInA dInF dInD at *
  split at h
  · simp at h ⊢
    obtain ⟨a, h1, h2⟩ := h
    refine ⟨a, h1, ?_⟩
    rw [← h2]
    cases dGetK _ _ a <;> rfl
  · simp at h ⊢
    split at h
    · split at h
      · simp at h
        simp_all
      · cases h
    · cases h

theorem cD_eq {s : List Int} {e : Int} {j : Nat} (h1 : 0 ≤ e) (h2 : e ≤ 3) : cD s e j = bD s e j := by
  unfold cD bD
  by_cases c : 2 ≤ e
  · have : e = 2 ∨ e = 3 := by omega
    simp [c, this]
  · have : ¬ (e = 2 ∨ e = 3) := by omega
    simp [c, this]

theorem in_open_law (s : List Int) (e : Int) (i j : Nat) (h1 : 0 ≤ e) (h2 : e ≤ 3) : dInA true [.str "open", .tup [aD s e i, cD s e j]] = some (.bl (!(opA e i || opB s e j))) := by
  rw [cD_eq h1 h2]
  exact in_not (in_open s e i j)

theorem head_law (s : List Int) (e x : Int) : head s e x = (decide (lo s x < hi s x) && !(opA e (lo s x) || opB s e (hi s x))) := by
  unfold head flag
  congr 1
  exact decide_eq_decide.mpr (by omega)

theorem take_filter {α : Type} (p : α → Bool) (l : List α) (j : Nat) (x : α) (h : l[j]? = some x) : (l.take (j + 1)).filter p = (l.take j).filter p ++ if p x = true then [x] else [] := by
  rw [List.take_succ, h, List.filter_append]
  by_cases c : p x = true <;> simp [c]

theorem heads_lt {s : List Int} {e : Int} : ∀ x ∈ heads s e, x ∈ s ∧ lo s x < hi s x := fun x h => by
  refine ⟨heads_mem h, ?_⟩
  have := (List.mem_filter.mp h).2
  rw [head_law] at this
  simp at this
  exact this.1

theorem d_eq {x y : Int} : dEq [.int x, .int y] = some (.bl (decide (x = y))) := by
  have h : ((x == y) = decide (x = y)) := by by_cases c : x = y <;> simp [c]
  simp [dEq, dEqB, D.pd, SeqAt.shaped, PyData.eqv, PyData.canLay0, PyData.depth, h]

def okR (r : Option (List Int)) : Prop := ∀ l, r = some l → l.Pairwise (· < ·) ∧ ∀ n ∈ l, 2 ≤ n ∧ n ≤ 40

def okK (ks : List Int) : Prop := ks.Nodup ∧ ∀ n ∈ ks, 2 ≤ n ∧ n ≤ 40

theorem put_key (ks : List Int) (ds : List D) (n : Int) (h : okK ks) (hn : 2 ≤ n ∧ n ≤ 40) (hz : ks.length < 1000) : ∃ ks' ds', okK ks' ∧ ks'.length ≤ ks.length + 1 ∧ fSetD (.dic (ks.map Sum.inl) ds) (.int n) (.bl true) = some (.dic (ks'.map Sum.inl) ds') := by
  have hs : ks.length < sizeLine := by rw [sizeLine_eq]; omega
  have e0 : fSetD (.dic (ks.map Sum.inl) ds) (.int n) (.bl true) = some (dPutK (ks.map Sum.inl) ds (.inl n) (.bl true)) := by
    simp [fSetD, dKey, own_bl, hs]
  rw [e0]
  unfold dPutK
  by_cases c : n ∈ ks
  · have : ((ks.map Sum.inl).any fun x => decide (x = (Sum.inl n : L2.Key))) = true := by
      rw [List.any_eq_true]
      exact ⟨.inl n, List.mem_map.mpr ⟨n, c, rfl⟩, by simp⟩
    rw [if_pos this]
    exact ⟨ks, _, h, Nat.le_succ _, rfl⟩
  · have : ¬ ((ks.map Sum.inl).any fun x => decide (x = (Sum.inl n : L2.Key))) = true := by
      rw [List.any_eq_true]
      rintro ⟨x, hx, e⟩
      obtain ⟨m, hm, rfl⟩ := List.mem_map.mp hx
      have : m = n := by simpa using e
      exact c (this ▸ hm)
    rw [if_neg this]
    refine ⟨ks ++ [n], _, ⟨?_, ?_⟩, by simp, by rw [List.map_append]; rfl⟩
    · rw [List.nodup_append]
      refine ⟨h.1, by simp, ?_⟩
      intro a ha b hb e
      rw [List.mem_singleton.mp hb] at e
      exact c (e ▸ ha)
    · intro m hm
      rcases List.mem_append.mp hm with z | z
      · exact h.2 m z
      · rw [List.mem_singleton.mp z]; exact hn

theorem dKInts_map (ks : List Int) : dKInts (ks.map Sum.inl) = some ks := by
  induction ks with
  | nil => rfl
  | cons a ks ih => simp [dKInts, ih]

theorem sort_keys (ks : List Int) (ds : List D) (h : ks.length < 64) : dSort [.dic (ks.map Sum.inl) ds] = some (.lst ((sortI ks).map .int)) := by
  simp [dSort, dOr, dSortL, dLInts, dSortT, dTInts, dSortK, dKInts_map, h]

theorem sorted_keys {ks : List Int} (h : okK ks) : okR (some (sortI ks)) := fun l e => by
  cases e
  have nd : (sortI ks).Nodup := (sortI_perm ks).nodup_iff.mpr h.1
  refine ⟨?_, fun n hn => h.2 n ((sortI_perm ks).mem_iff.mp hn)⟩
  exact (sortI_sorted ks).imp₂ (fun a b h1 h2 => by omega) nd

end K58

namespace K58
open PySem TV
def okS (s : List Int) : Prop := s.Nodup ∧ 1 ≤ s.length ∧ s.length ≤ 40 ∧ ∀ x ∈ s, -1000000000000000 < x ∧ x < 1000000000000000

theorem seqIx {n k : Nat} (h : k < n) : seqIndex? (k : Int) n = some k := by
  unfold seqIndex?
  have h1 : ¬ ((k : Int) < 0) := by omega
  have h2 : (k : Int) < n := by omega
  simp [h1, h]

theorem perm_erase {α : Type} : ∀ (L : List α) (t : Nat) (h : t < L.length), (L[t] :: L.eraseIdx t).Perm L
  | x :: L, 0, _ => .refl _
  | x :: L, t + 1, h => by
    have h2 : t < L.length := Nat.lt_of_succ_lt_succ h
    exact (List.Perm.swap x L[t] (L.eraseIdx t)).trans ((perm_erase L t h2).cons x)

theorem erase_map {α β : Type} (f : α → β) : ∀ (L : List α) (t : Nat), (L.map f).eraseIdx t = (L.eraseIdx t).map f
  | [], _ => rfl
  | x :: L, 0 => rfl
  | x :: L, t + 1 => congrArg (f x :: ·) (erase_map f L t)

theorem pop_at (xs : List D) (t : Nat) (h : t < xs.length) (h2 : xs.length < 1000) : fPopAt xs [.int t] = some (xs.eraseIdx t, xs[t]) := by
  have e : fPopAt xs [.int t] = if -(2 ^ 63) ≤ (t : Int) ∧ (t : Int) < 2 ^ 63 then (match seqIndex? (t : Int) xs.length with
    | some k => (xs[k]?).map fun y => (xs.eraseIdx k, y)
    | none => none) else none := rfl
  rw [e, if_pos ⟨by omega, by omega⟩, seqIx h]
  simp [h]

theorem range_1 (n : Nat) (h : n ≤ 1000) : dR1 [.int n] = some (dRng 0 n) := by
  have e : dR1 [.int n] = if -(2 ^ 62) ≤ (n : Int) ∧ (n : Int) < 2 ^ 62 then some (dRng 0 (n : Int).toNat) else none := rfl
  rw [e, if_pos ⟨by omega, by omega⟩]
  simp

theorem range_2 (m n : Nat) (h : n ≤ 1000) (h2 : m ≤ 1000) : dR2 [.int m, .int n] = some (dRng m (n - m)) := by
  have e : dR2 [.int m, .int n] = if -(2 ^ 62) ≤ (m : Int) ∧ (m : Int) < 2 ^ 62 ∧ -(2 ^ 62) ≤ (n : Int) ∧ (n : Int) < 2 ^ 62 then some (dRng m ((n : Int) - m).toNat) else none := rfl
  rw [e, if_pos ⟨by omega, by omega, by omega, by omega⟩]
  have : ((n : Int) - m).toNat = n - m := by omega
  rw [this]

theorem mut_run {g : List D → List D → Option (List D × D)} {i : Nat} {os : List Opd} {ρ ρ1 : TV.Env} {xs xs1 ds ys : List D} {ps : List (Option D)} {z : D} (h0 : ρ[i]? = some (some (.lst xs))) (h1 : ev os ρ = .ok (ps, ρ1)) (h2 : ρ1[i]? = some (some (.lst xs1))) (h3 : rds os ps ρ1 = some ds) (h4 : g xs1 ds = some (ys, z)) :
    mMut i os g ρ = .ok (z, ρ1.set i (some (.lst ys))) := by
  rw [a_mut, h0]
  simp only
  rw [h1, b_ok, k_mut, h2, h3]
  simp only
  rw [h4]

theorem io_run {g : List D → Option (List D)} {os : List Opd} {ρ ρ1 : TV.Env} {ds es : List D} {ps : List (Option D)} (h1 : ev os ρ = .ok (ps, ρ1)) (h3 : rds os ps ρ1 = some ds) (h4 : g ds = some es) : mIO os g ρ = .ok (es, ρ1) := by
  rw [a_io, h1, b_ok, k_io, h3]
  simp only [Option.bind]
  rw [h4]

theorem p6 : dPow [.int 10, .int 6] = some (.int 1000000) := by
  have h : L2.CPow 10 6 := by unfold L2.CPow; decide
  show (if L2.CPow 10 6 then some (D.int (10 ^ (6 : Int).toNat)) else none) = _
  rw [if_pos h]
  rfl

theorem p9 : dPow [.int 10, .int 9] = some (.int 1000000000) := by
  have h : L2.CPow 10 9 := by unfold L2.CPow; decide
  show (if L2.CPow 10 9 then some (D.int (10 ^ (9 : Int).toNat)) else none) = _
  rw [if_pos h]
  rfl

theorem op_run {g : List D → Option D} {os : List Opd} {ρ ρ1 : TV.Env} {ds : List D} {ps : List (Option D)} {z : D} (h1 : ev os ρ = .ok (ps, ρ1)) (h3 : rds os ps ρ1 = some ds) (h4 : g ds = some z) : mOp os g ρ = .ok (z, ρ1) := by
  rw [a_op, h1, b_ok, k_op, h3]
  simp only [Option.bind]
  rw [h4]

theorem q6 (ρ : TV.Env) : mOp [.tmp (mC (.int 10)) pAny, .tmp (mC (.int 6)) pAny] dPow ρ = .ok (.int 1000000, ρ) := op_run (ps := [some (.int 10), some (.int 6)]) (ds := [.int 10, .int 6]) rfl rfl p6

theorem q9 (ρ : TV.Env) : mOp [.tmp (mC (.int 10)) pAny, .tmp (mC (.int 9)) pAny] dPow ρ = .ok (.int 1000000000, ρ) := op_run (ps := [some (.int 10), some (.int 9)]) (ds := [.int 10, .int 9]) rfl rfl p9

def poolT : MS := mSeq (mSet 3 (mOp [.tmp (mOp [.var 2 pAny] dInt) pAny, .tmp (mOp [.tmp (mOp [.tmp (mOp [.tmp (mC (.int 1)) pAny] dNeg) pAny, .var 2 pAny] dSub) pAny] dInt) pAny] dMax2)) (mSeq (mSet 4 (mOp [.tmp (mOp [.tmp (mOp [.tmp (mOp [.tmp (mOp [.tmp (mOp [.tmp (mOp [.tmp (mOp [.var 3 pAny] dInt) pAny, .tmp (mC (.int 2147483629)) pAny] dMod) pAny, .tmp (mOp [.tmp (mOp [.tmp (mC (.int 7919)) pAny, .var 1 pAny] dMulS) pAny, .var 1 pAny] dMulS) pAny] dAdd) pAny, .tmp (mOp [.tmp (mC (.int 31)) pAny, .var 1 pAny] dMulS) pAny] dAdd) pAny, .tmp (mC (.int 17)) pAny] dAdd) pAny, .tmp (mC (.int 48271)) pAny] dMulS) pAny] dInt) pAny, .tmp (mC (.int 2147483647)) pAny] dMod)) (mDo (mOp [.tmp (mOp [.var 3 pAny, .tmp (mOp [.tmp (mOp [.var 3 pAny, .tmp (mOp [.tmp (mC (.int 10)) pAny, .tmp (mC (.int 18)) pAny] dPow) pAny] dGe) pAny] dInt) pAny] dMulS) pAny, .var 4 pAny] dLst) kRet))

theorem p18 : dPow [.int 10, .int 18] = some (.int 1000000000000000000) := by
  have h : L2.CPow 10 18 := by unfold L2.CPow; decide
  show (if L2.CPow 10 18 then some (D.int (10 ^ (18 : Int).toNat)) else none) = _
  rw [if_pos h]
  rfl

theorem q18 (ρ : TV.Env) : mOp [.tmp (mC (.int 10)) pAny, .tmp (mC (.int 18)) pAny] dPow ρ = .ok (.int 1000000000000000000, ρ) := op_run (ps := [some (.int 10), some (.int 18)]) (ds := [.int 10, .int 18]) rfl rfl p18

def bigOf (c : Int) : Int := if -1 - c > c then -1 - c else c

theorem bigOf_nn (c : Int) : 0 ≤ bigOf c := by
  unfold bigOf
  split <;> omega

theorem max_big (c : Int) : dMax2 [.int c, .int (-1 - c)] = some (.int (bigOf c)) := rfl

def mixOf (c k : Int) : Int := ((bigOf c % 2147483629 + 7919 * k * k + 31 * k + 17) * 48271) % 2147483647

def firstOf (c : Int) : Int := bigOf c * (if 1000000000000000000 ≤ bigOf c then 1 else 0)

theorem pool_src (c k : Int) : Src (firstOf c) (mixOf c k) := by
  refine ⟨?_, Int.emod_nonneg _ (by decide), Int.emod_lt_of_pos _ (by decide)⟩
  unfold firstOf
  have := bigOf_nn c
  split
  · omega
  · omega

theorem pool_end (S : D) (k c : Int) (h1 : 0 ≤ k) (h2 : k ≤ 3) (hS : S.own = false) : poolT [some S, some (.int k), some (.int c), none, none] = .ok (.rt (src (firstOf c) (mixOf c k)), [some S, some (.int k), some (.int c), some (.int (bigOf c)), some (.int (mixOf c k))]) := by
  have k1 : -18446744073709551616 < k := by omega
  have k2 : k < 18446744073709551616 := by omega
  have neg1 : (-1 : Int) - c = -1 - c := rfl
  by_cases c1 : 1000000000000000000 ≤ bigOf c
  · have e1 : firstOf c = bigOf c := by simp [firstOf, c1]
    unfold poolT
    simp [b_ok, b_stuck, b_exc, a_def, f_ok, f_exc, k_rt, k_nx, a_do, a_set, a_set2, a_drop, a_ret, a_unp, a_seq, k_seq, k_seqr, k_seqb, k_seqc, a_op, k_op, a_c, a_var, a_b, k_b, a_then, k_and1, k_and0, k_or1, k_or0, k_andV1, k_andV0, k_orV1, k_orV0, k_if1, k_if0, k_ifS1, k_ifS0, k_ifT1, k_ifT0, k_notV, k_not, a_yes, a_no, a_next, a_never, a_par, k_par, a_for, k_for, a_i1, k_i1, a_io, k_io, a_call, k_call, a_callP, k_callP, a_chain, k_chain, a_mut, k_mut, a_sto, k_sto, a_lc, k_lc, a_new, a_gN, a_gT, d_lt, d_le, d_gt, d_ge, d_intB, ev, rds, chk, pAny, pTup, pInt, takeA, wbE, permL, padE, outE, gNs, own_int, own_bl, own_str, own_non, own_tup, own_ins, own_frl, own_lst, own_dic, dTup, dLst, dAdd, dSub, dMulS, dDiv, dMod, dNeg, dInt, dAbs, dIsN, dNotN, D.isNon, dLen, dItems, dIx, dTru, D.tru, D.seq, fSetL, fAppend, sizeLine_eq, rg1, rg2, rg3, rg4, rg5, rg6, rg7, rg8, a_raise, k_raise, a_par3, k_par3, a_try, kt_ok, kt_exc, hdl, sEnd, dropN, inR, dRev, a_fz, k_fzL, k_fzF, k_fzT, a_fzS, k_fzS, ↓q18, max_big, k1, k2, c1, e1, mixOf]
  · have e1 : firstOf c = 0 := by simp [firstOf, c1]
    unfold poolT
    simp [b_ok, b_stuck, b_exc, a_def, f_ok, f_exc, k_rt, k_nx, a_do, a_set, a_set2, a_drop, a_ret, a_unp, a_seq, k_seq, k_seqr, k_seqb, k_seqc, a_op, k_op, a_c, a_var, a_b, k_b, a_then, k_and1, k_and0, k_or1, k_or0, k_andV1, k_andV0, k_orV1, k_orV0, k_if1, k_if0, k_ifS1, k_ifS0, k_ifT1, k_ifT0, k_notV, k_not, a_yes, a_no, a_next, a_never, a_par, k_par, a_for, k_for, a_i1, k_i1, a_io, k_io, a_call, k_call, a_callP, k_callP, a_chain, k_chain, a_mut, k_mut, a_sto, k_sto, a_lc, k_lc, a_new, a_gN, a_gT, d_lt, d_le, d_gt, d_ge, d_intB, ev, rds, chk, pAny, pTup, pInt, takeA, wbE, permL, padE, outE, gNs, own_int, own_bl, own_str, own_non, own_tup, own_ins, own_frl, own_lst, own_dic, dTup, dLst, dAdd, dSub, dMulS, dDiv, dMod, dNeg, dInt, dAbs, dIsN, dNotN, D.isNon, dLen, dItems, dIx, dTru, D.tru, D.seq, fSetL, fAppend, sizeLine_eq, rg1, rg2, rg3, rg4, rg5, rg6, rg7, rg8, a_raise, k_raise, a_par3, k_par3, a_try, kt_ok, kt_exc, hdl, sEnd, dropN, inR, dRev, a_fz, k_fzL, k_fzF, k_fzT, a_fzS, k_fzS, ↓q18, max_big, k1, k2, c1, e1, mixOf]

theorem pool_is : m__law_pool = mSeq (mSet 2 (mC (.int 0))) (mSeq (mIfS (mB (mOp [.var 1 pAny, .tmp (mOp [.var 0 pAny] dLen) pAny] dLt)) (mSet 2 (mOp [.var 0 pAny, .var 1 pAny] dIx)) (mIfS (mB (mOp [.var 0 pAny] dTru)) (mSet 2 (mOp [.var 0 pAny, .tmp (mC (.int 0)) pAny] dIx)) (mNext))) poolT) := rfl

theorem e_lpool (ns : List Int) (k : Nat) (hk : k ≤ 3) : ∃ a b, Src a b ∧ F__law_pool [some (.frl (ns.map .int)), some (.int k)] = .ok (src a b, [some (.frl (ns.map .int)), some (.int k)]) := by
  have go := fun c => pool_end (.frl (ns.map .int)) k c (by omega) (by omega) rfl
  by_cases c1 : k < ns.length
  · refine ⟨_, _, pool_src ns[k] k, ?_⟩
    have c2 : (k : Int) < ns.length := by omega
    unfold F__law_pool
    rw [pool_is]
    simp [b_ok, b_stuck, b_exc, a_def, f_ok, f_exc, k_rt, k_nx, a_do, a_set, a_set2, a_drop, a_ret, a_unp, a_seq, k_seq, k_seqr, k_seqb, k_seqc, a_op, k_op, a_c, a_var, a_b, k_b, a_then, k_and1, k_and0, k_or1, k_or0, k_andV1, k_andV0, k_orV1, k_orV0, k_if1, k_if0, k_ifS1, k_ifS0, k_ifT1, k_ifT0, k_notV, k_not, a_yes, a_no, a_next, a_never, a_par, k_par, a_for, k_for, a_i1, k_i1, a_io, k_io, a_call, k_call, a_callP, k_callP, a_chain, k_chain, a_mut, k_mut, a_sto, k_sto, a_lc, k_lc, a_new, a_gN, a_gT, d_lt, d_le, d_gt, d_ge, d_intB, ev, rds, chk, pAny, pTup, pInt, takeA, wbE, permL, padE, outE, gNs, own_int, own_bl, own_str, own_non, own_tup, own_ins, own_frl, own_lst, own_dic, dTup, dLst, dAdd, dSub, dMulS, dDiv, dMod, dNeg, dInt, dAbs, dIsN, dNotN, D.isNon, dLen, dItems, dIx, dTru, D.tru, D.seq, fSetL, fAppend, sizeLine_eq, rg1, rg2, rg3, rg4, rg5, rg6, rg7, rg8, a_raise, k_raise, a_par3, k_par3, a_try, kt_ok, kt_exc, hdl, sEnd, dropN, inR, dRev, a_fz, k_fzL, k_fzF, k_fzT, a_fzS, k_fzS, c2, atI_nat, List.getElem?_eq_getElem, c1, go]
  · have c2 : ¬ (k : Int) < ns.length := by omega
    cases ns with
    | nil =>
      refine ⟨_, _, pool_src 0 k, ?_⟩
      unfold F__law_pool
      rw [pool_is]
      have c3 : ¬ (k : Int) < 0 := by omega
      simp [b_ok, b_stuck, b_exc, a_def, f_ok, f_exc, k_rt, k_nx, a_do, a_set, a_set2, a_drop, a_ret, a_unp, a_seq, k_seq, k_seqr, k_seqb, k_seqc, a_op, k_op, a_c, a_var, a_b, k_b, a_then, k_and1, k_and0, k_or1, k_or0, k_andV1, k_andV0, k_orV1, k_orV0, k_if1, k_if0, k_ifS1, k_ifS0, k_ifT1, k_ifT0, k_notV, k_not, a_yes, a_no, a_next, a_never, a_par, k_par, a_for, k_for, a_i1, k_i1, a_io, k_io, a_call, k_call, a_callP, k_callP, a_chain, k_chain, a_mut, k_mut, a_sto, k_sto, a_lc, k_lc, a_new, a_gN, a_gT, d_lt, d_le, d_gt, d_ge, d_intB, ev, rds, chk, pAny, pTup, pInt, takeA, wbE, permL, padE, outE, gNs, own_int, own_bl, own_str, own_non, own_tup, own_ins, own_frl, own_lst, own_dic, dTup, dLst, dAdd, dSub, dMulS, dDiv, dMod, dNeg, dInt, dAbs, dIsN, dNotN, D.isNon, dLen, dItems, dIx, dTru, D.tru, D.seq, fSetL, fAppend, sizeLine_eq, rg1, rg2, rg3, rg4, rg5, rg6, rg7, rg8, a_raise, k_raise, a_par3, k_par3, a_try, kt_ok, kt_exc, hdl, sEnd, dropN, inR, dRev, a_fz, k_fzL, k_fzF, k_fzT, a_fzS, k_fzS, c3] at go ⊢
      simp [b_ok, b_stuck, b_exc, a_def, f_ok, f_exc, k_rt, k_nx, a_do, a_set, a_set2, a_drop, a_ret, a_unp, a_seq, k_seq, k_seqr, k_seqb, k_seqc, a_op, k_op, a_c, a_var, a_b, k_b, a_then, k_and1, k_and0, k_or1, k_or0, k_andV1, k_andV0, k_orV1, k_orV0, k_if1, k_if0, k_ifS1, k_ifS0, k_ifT1, k_ifT0, k_notV, k_not, a_yes, a_no, a_next, a_never, a_par, k_par, a_for, k_for, a_i1, k_i1, a_io, k_io, a_call, k_call, a_callP, k_callP, a_chain, k_chain, a_mut, k_mut, a_sto, k_sto, a_lc, k_lc, a_new, a_gN, a_gT, d_lt, d_le, d_gt, d_ge, d_intB, ev, rds, chk, pAny, pTup, pInt, takeA, wbE, permL, padE, outE, gNs, own_int, own_bl, own_str, own_non, own_tup, own_ins, own_frl, own_lst, own_dic, dTup, dLst, dAdd, dSub, dMulS, dDiv, dMod, dNeg, dInt, dAbs, dIsN, dNotN, D.isNon, dLen, dItems, dIx, dTru, D.tru, D.seq, fSetL, fAppend, sizeLine_eq, rg1, rg2, rg3, rg4, rg5, rg6, rg7, rg8, a_raise, k_raise, a_par3, k_par3, a_try, kt_ok, kt_exc, hdl, sEnd, dropN, inR, dRev, a_fz, k_fzL, k_fzF, k_fzT, a_fzS, k_fzS, c3, go]
    | cons n ns =>
      refine ⟨_, _, pool_src n k, ?_⟩
      unfold F__law_pool
      rw [pool_is]
      simp only [List.map_cons, List.length_cons] at go c2 ⊢
      have c4 : ¬ (k : Int) < ns.length + 1 := by omega
      simp [b_ok, b_stuck, b_exc, a_def, f_ok, f_exc, k_rt, k_nx, a_do, a_set, a_set2, a_drop, a_ret, a_unp, a_seq, k_seq, k_seqr, k_seqb, k_seqc, a_op, k_op, a_c, a_var, a_b, k_b, a_then, k_and1, k_and0, k_or1, k_or0, k_andV1, k_andV0, k_orV1, k_orV0, k_if1, k_if0, k_ifS1, k_ifS0, k_ifT1, k_ifT0, k_notV, k_not, a_yes, a_no, a_next, a_never, a_par, k_par, a_for, k_for, a_i1, k_i1, a_io, k_io, a_call, k_call, a_callP, k_callP, a_chain, k_chain, a_mut, k_mut, a_sto, k_sto, a_lc, k_lc, a_new, a_gN, a_gT, d_lt, d_le, d_gt, d_ge, d_intB, ev, rds, chk, pAny, pTup, pInt, takeA, wbE, permL, padE, outE, gNs, own_int, own_bl, own_str, own_non, own_tup, own_ins, own_frl, own_lst, own_dic, dTup, dLst, dAdd, dSub, dMulS, dDiv, dMod, dNeg, dInt, dAbs, dIsN, dNotN, D.isNon, dLen, dItems, dIx, dTru, D.tru, D.seq, fSetL, fAppend, sizeLine_eq, rg1, rg2, rg3, rg4, rg5, rg6, rg7, rg8, a_raise, k_raise, a_par3, k_par3, a_try, kt_ok, kt_exc, hdl, sEnd, dropN, inR, dRev, a_fz, k_fzL, k_fzF, k_fzT, a_fzS, k_fzS, c4, at0, go]

theorem in_new (ks : List Int) (ds : List D) (x : Int) (h : x ∉ ks) : dInA false [.int x, .dic (ks.map Sum.inl) ds] = some (.bl false) := by
  have e : dGetK (ks.map Sum.inl) ds (.inl x) = none := by
    unfold dGetK
    rw [Option.map_eq_none_iff, List.find?_eq_none]
    rintro ⟨k, d⟩ hp q
    have hk := (List.of_mem_zip hp).1
    obtain ⟨m, hm, rfl⟩ := List.mem_map.mp hk
    have : m = x := by simpa using q
    exact h (this ▸ hm)
  simp [dInA, dInD, dKey, e]

theorem put_new (ks : List Int) (ds : List D) (n : Int) (h : n ∉ ks) (hz : ks.length < 1000) : ∃ ds', fSetD (.dic (ks.map Sum.inl) ds) (.int n) (.bl true) = some (.dic ((ks ++ [n]).map Sum.inl) ds') := by
  have hs : ks.length < sizeLine := by rw [sizeLine_eq]; omega
  have e0 : fSetD (.dic (ks.map Sum.inl) ds) (.int n) (.bl true) = some (dPutK (ks.map Sum.inl) ds (.inl n) (.bl true)) := by
    simp [fSetD, dKey, own_bl, hs]
  rw [e0]
  unfold dPutK
  have : ¬ ((ks.map Sum.inl).any fun x => decide (x = (Sum.inl n : L2.Key))) = true := by
    rw [List.any_eq_true]
    rintro ⟨x, hx, e⟩
    obtain ⟨m, hm, rfl⟩ := List.mem_map.mp hx
    have : m = n := by simpa using e
    exact h (this ▸ hm)
  rw [if_neg this]
  exact ⟨_, by rw [List.map_append]; rfl⟩

theorem e_want_stones (s : List Int) (h : okS s) : F_want_stones [some (.tup (s.map .int)), some (.int 1)] = .ok (.non, [some (.tup (s.map .int)), some (.int 1)]) := by
  obtain ⟨nd, l1, l2, bd⟩ := h
  let I : Nat → TV.Env → Prop := fun k ρ => ∃ (ds : List D) (o3 o4 : Option D), ρ = [some (.tup (s.map .int)), some (.int 1), some (.dic ((s.take k).map Sum.inl) ds), o3, o4]
  have run := for_inv (tg := gT [3, 4]) (b := b_want_stones_1)
    (I := I) (enD 0 (s.map D.int)) 0 [some (.tup (s.map .int)), some (.int 1), some (.dic [] []), none, none] (fun j d ρ hd hI => ?_) ⟨[], none, none, rfl⟩
  · obtain ⟨ρ', e1, ds, o3, o4, rfl⟩ := run
    have c1 : (1 : Int) ≤ s.length := by omega
    have c2 : (s.length : Int) ≤ 40 := by omega
    unfold F_want_stones m_want_stones
    simp [b_ok, b_stuck, b_exc, a_def, f_ok, f_exc, k_rt, k_nx, a_do, a_set, a_set2, a_drop, a_ret, a_unp, a_seq, k_seq, k_seqr, k_seqb, k_seqc, a_op, k_op, a_c, a_var, a_b, k_b, a_then, k_and1, k_and0, k_or1, k_or0, k_andV1, k_andV0, k_orV1, k_orV0, k_if1, k_if0, k_ifS1, k_ifS0, k_ifT1, k_ifT0, k_notV, k_not, a_yes, a_no, a_next, a_never, a_par, k_par, a_for, k_for, a_i1, k_i1, a_io, k_io, a_call, k_call, a_callP, k_callP, a_chain, k_chain, a_mut, k_mut, a_sto, k_sto, a_lc, k_lc, a_new, a_gN, a_gT, d_lt, d_le, d_gt, d_ge, d_intB, ev, rds, chk, pAny, pTup, pInt, takeA, wbE, permL, padE, outE, gNs, own_int, own_bl, own_str, own_non, own_tup, own_ins, own_frl, own_lst, own_dic, dTup, dLst, dAdd, dSub, dMulS, dDiv, dMod, dNeg, dInt, dAbs, dIsN, dNotN, D.isNon, dLen, dItems, dIx, dTru, D.tru, D.seq, fSetL, fAppend, sizeLine_eq, rg1, rg2, rg3, rg4, rg5, rg6, rg7, rg8, a_raise, k_raise, a_par3, k_par3, a_try, kt_ok, kt_exc, hdl, sEnd, dropN, inR, dRev, a_fz, k_fzL, k_fzF, k_fzT, a_fzS, k_fzS, c1, c2, dEnum, ↓e1]
  · obtain ⟨ds, o3, o4, rfl⟩ := hI
    obtain ⟨x, hx, rfl⟩ := enD_get hd
    rw [List.getElem?_map, Option.map_eq_some_iff] at hx
    obtain ⟨x, hx, rfl⟩ := hx
    obtain ⟨hj, ex⟩ := List.getElem?_eq_some_iff.mp hx
    have nin : x ∉ s.take j := fun m => by
      have n2 := nd
      rw [← List.take_append_drop j s, List.nodup_append] at n2
      refine n2.2.2 x m x ?_ rfl
      rw [List.drop_eq_getElem_cons hj, ex]
      exact List.mem_cons_self
    have b1 := bd x (by rw [← ex]; exact List.getElem_mem hj)
    have b2 : (if x < 0 then -x else x) < 1000000000000000 := by split <;> omega
    obtain ⟨ds', e2⟩ := put_new (s.take j) ds x nin (by rw [List.length_take]; omega)
    have e3 := in_new (s.take j) ds x nin
    have et : s.take (j + 1) = s.take j ++ [x] := by rw [List.take_succ, hx]; rfl
    simp only [Nat.zero_add] at *
    refine ⟨_, [some (.tup (s.map .int)), some (.int 1), some (.dic ((s.take j ++ [x]).map Sum.inl) ds'), some (.int (j : Nat)), some (.int x)], rfl, ?_, ds', some (.int (j : Nat)), some (.int x), by rw [et]⟩
    clear et hd nin
    generalize s.take j = ks at *
    simp [b_want_stones_1, b_ok, b_stuck, b_exc, a_def, f_ok, f_exc, k_rt, k_nx, a_do, a_set, a_set2, a_drop, a_ret, a_unp, a_seq, k_seq, k_seqr, k_seqb, k_seqc, a_op, k_op, a_c, a_var, a_b, k_b, a_then, k_and1, k_and0, k_or1, k_or0, k_andV1, k_andV0, k_orV1, k_orV0, k_if1, k_if0, k_ifS1, k_ifS0, k_ifT1, k_ifT0, k_notV, k_not, a_yes, a_no, a_next, a_never, a_par, k_par, a_for, k_for, a_i1, k_i1, a_io, k_io, a_call, k_call, a_callP, k_callP, a_chain, k_chain, a_mut, k_mut, a_sto, k_sto, a_lc, k_lc, a_new, a_gN, a_gT, d_lt, d_le, d_gt, d_ge, d_intB, ev, rds, chk, pAny, pTup, pInt, takeA, wbE, permL, padE, outE, gNs, own_int, own_bl, own_str, own_non, own_tup, own_ins, own_frl, own_lst, own_dic, dTup, dLst, dAdd, dSub, dMulS, dDiv, dMod, dNeg, dInt, dAbs, dIsN, dNotN, D.isNon, dLen, dItems, dIx, dTru, D.tru, D.seq, fSetL, fAppend, sizeLine_eq, rg1, rg2, rg3, rg4, rg5, rg6, rg7, rg8, a_raise, k_raise, a_par3, k_par3, a_try, kt_ok, kt_exc, hdl, sEnd, dropN, inR, dRev, a_fz, k_fzL, k_fzF, k_fzT, a_fzS, k_fzS, e_is_stone, b2, e2, e3]

theorem e_want_ends (e : Int) (h1 : 0 ≤ e) (h2 : e ≤ 3) : F_want_ends [some (.int e)] = .ok (.non, [some (.int e)]) := by
  unfold F_want_ends m_want_ends
  simp [b_ok, b_stuck, b_exc, a_def, f_ok, f_exc, k_rt, k_nx, a_do, a_set, a_set2, a_drop, a_ret, a_unp, a_seq, k_seq, k_seqr, k_seqb, k_seqc, a_op, k_op, a_c, a_var, a_b, k_b, a_then, k_and1, k_and0, k_or1, k_or0, k_andV1, k_andV0, k_orV1, k_orV0, k_if1, k_if0, k_ifS1, k_ifS0, k_ifT1, k_ifT0, k_notV, k_not, a_yes, a_no, a_next, a_never, a_par, k_par, a_for, k_for, a_i1, k_i1, a_io, k_io, a_call, k_call, a_callP, k_callP, a_chain, k_chain, a_mut, k_mut, a_sto, k_sto, a_lc, k_lc, a_new, a_gN, a_gT, d_lt, d_le, d_gt, d_ge, d_intB, ev, rds, chk, pAny, pTup, pInt, takeA, wbE, permL, padE, outE, gNs, own_int, own_bl, own_str, own_non, own_tup, own_ins, own_frl, own_lst, own_dic, dTup, dLst, dAdd, dSub, dMulS, dDiv, dMod, dNeg, dInt, dAbs, dIsN, dNotN, D.isNon, dLen, dItems, dIx, dTru, D.tru, D.seq, fSetL, fAppend, sizeLine_eq, rg1, rg2, rg3, rg4, rg5, rg6, rg7, rg8, a_raise, k_raise, a_par3, k_par3, a_try, kt_ok, kt_exc, hdl, sEnd, dropN, inR, dRev, a_fz, k_fzL, k_fzF, k_fzT, a_fzS, k_fzS, h1, h2]

theorem e_want_rule (r : Option (List Int)) (h : okR r) : F_want_rule [some (rD r)] = .ok (.non, [some (rD r)]) := by
  cases r with
  | none =>
    unfold F_want_rule m_want_rule
    simp [b_ok, b_stuck, b_exc, a_def, f_ok, f_exc, k_rt, k_nx, a_do, a_set, a_set2, a_drop, a_ret, a_unp, a_seq, k_seq, k_seqr, k_seqb, k_seqc, a_op, k_op, a_c, a_var, a_b, k_b, a_then, k_and1, k_and0, k_or1, k_or0, k_andV1, k_andV0, k_orV1, k_orV0, k_if1, k_if0, k_ifS1, k_ifS0, k_ifT1, k_ifT0, k_notV, k_not, a_yes, a_no, a_next, a_never, a_par, k_par, a_for, k_for, a_i1, k_i1, a_io, k_io, a_call, k_call, a_callP, k_callP, a_chain, k_chain, a_mut, k_mut, a_sto, k_sto, a_lc, k_lc, a_new, a_gN, a_gT, d_lt, d_le, d_gt, d_ge, d_intB, ev, rds, chk, pAny, pTup, pInt, takeA, wbE, permL, padE, outE, gNs, own_int, own_bl, own_str, own_non, own_tup, own_ins, own_frl, own_lst, own_dic, dTup, dLst, dAdd, dSub, dMulS, dDiv, dMod, dNeg, dInt, dAbs, dIsN, dNotN, D.isNon, dLen, dItems, dIx, dTru, D.tru, D.seq, fSetL, fAppend, sizeLine_eq, rg1, rg2, rg3, rg4, rg5, rg6, rg7, rg8, a_raise, k_raise, a_par3, k_par3, a_try, kt_ok, kt_exc, hdl, sEnd, dropN, inR, dRev, a_fz, k_fzL, k_fzF, k_fzT, a_fzS, k_fzS, rD, dEnum, enD, forL]
  | some l =>
    obtain ⟨sd, bd⟩ := h l rfl
    let I : Nat → TV.Env → Prop := fun k ρ => ∃ (b : Int) (o2 o3 : Option D), (b = if k = 0 then 1 else l.getD (k - 1) 0) ∧ ρ = [some (.tup (l.map .int)), some (.int b), o2, o3]
    have run := for_inv (tg := gT [2, 3]) (b := b_want_rule_1)
      (I := I) (enD 0 (l.map D.int)) 0 [some (.tup (l.map .int)), some (.int 1), none, none] (fun j d ρ hd hI => ?_) ⟨1, none, none, rfl, rfl⟩
    · obtain ⟨ρ', e1, b, o3, o4, _, rfl⟩ := run
      unfold F_want_rule m_want_rule
      simp [b_ok, b_stuck, b_exc, a_def, f_ok, f_exc, k_rt, k_nx, a_do, a_set, a_set2, a_drop, a_ret, a_unp, a_seq, k_seq, k_seqr, k_seqb, k_seqc, a_op, k_op, a_c, a_var, a_b, k_b, a_then, k_and1, k_and0, k_or1, k_or0, k_andV1, k_andV0, k_orV1, k_orV0, k_if1, k_if0, k_ifS1, k_ifS0, k_ifT1, k_ifT0, k_notV, k_not, a_yes, a_no, a_next, a_never, a_par, k_par, a_for, k_for, a_i1, k_i1, a_io, k_io, a_call, k_call, a_callP, k_callP, a_chain, k_chain, a_mut, k_mut, a_sto, k_sto, a_lc, k_lc, a_new, a_gN, a_gT, d_lt, d_le, d_gt, d_ge, d_intB, ev, rds, chk, pAny, pTup, pInt, takeA, wbE, permL, padE, outE, gNs, own_int, own_bl, own_str, own_non, own_tup, own_ins, own_frl, own_lst, own_dic, dTup, dLst, dAdd, dSub, dMulS, dDiv, dMod, dNeg, dInt, dAbs, dIsN, dNotN, D.isNon, dLen, dItems, dIx, dTru, D.tru, D.seq, fSetL, fAppend, sizeLine_eq, rg1, rg2, rg3, rg4, rg5, rg6, rg7, rg8, a_raise, k_raise, a_par3, k_par3, a_try, kt_ok, kt_exc, hdl, sEnd, dropN, inR, dRev, a_fz, k_fzL, k_fzF, k_fzT, a_fzS, k_fzS, rD, dEnum, ↓e1]
    · obtain ⟨b, o3, o4, eb, rfl⟩ := hI
      obtain ⟨x, hx, rfl⟩ := enD_get hd
      rw [List.getElem?_map, Option.map_eq_some_iff] at hx
      obtain ⟨x, hx, rfl⟩ := hx
      obtain ⟨hj, ex⟩ := List.getElem?_eq_some_iff.mp hx
      have b1 := bd x (by rw [← ex]; exact List.getElem_mem hj)
      have b2 : b < x := by
        simp only [Nat.zero_add] at eb
        by_cases c : j = 0
        · rw [eb, if_pos c]; omega
        · rw [eb, if_neg c, List.getD_eq_getElem?_getD, List.getElem?_eq_getElem (by omega), ← ex]
          exact List.pairwise_iff_getElem.mp sd (j - 1) j (by omega) hj (by omega)
      refine ⟨_, [some (.tup (l.map .int)), some (.int x), some (.int ((0 + j : Nat))), some (.int x)], rfl, ?_, x, _, _, ?_, rfl⟩
      · simp [b_want_rule_1, b_ok, b_stuck, b_exc, a_def, f_ok, f_exc, k_rt, k_nx, a_do, a_set, a_set2, a_drop, a_ret, a_unp, a_seq, k_seq, k_seqr, k_seqb, k_seqc, a_op, k_op, a_c, a_var, a_b, k_b, a_then, k_and1, k_and0, k_or1, k_or0, k_andV1, k_andV0, k_orV1, k_orV0, k_if1, k_if0, k_ifS1, k_ifS0, k_ifT1, k_ifT0, k_notV, k_not, a_yes, a_no, a_next, a_never, a_par, k_par, a_for, k_for, a_i1, k_i1, a_io, k_io, a_call, k_call, a_callP, k_callP, a_chain, k_chain, a_mut, k_mut, a_sto, k_sto, a_lc, k_lc, a_new, a_gN, a_gT, d_lt, d_le, d_gt, d_ge, d_intB, ev, rds, chk, pAny, pTup, pInt, takeA, wbE, permL, padE, outE, gNs, own_int, own_bl, own_str, own_non, own_tup, own_ins, own_frl, own_lst, own_dic, dTup, dLst, dAdd, dSub, dMulS, dDiv, dMod, dNeg, dInt, dAbs, dIsN, dNotN, D.isNon, dLen, dItems, dIx, dTru, D.tru, D.seq, fSetL, fAppend, sizeLine_eq, rg1, rg2, rg3, rg4, rg5, rg6, rg7, rg8, a_raise, k_raise, a_par3, k_par3, a_try, kt_ok, kt_exc, hdl, sEnd, dropN, inR, dRev, a_fz, k_fzL, k_fzF, k_fzT, a_fzS, k_fzS, b1.2, b2]
      · simp [hx]

theorem e_Row (s : List Int) (e : Int) (r : Option (List Int)) (h : okS s) (h1 : 0 ≤ e) (h2 : e ≤ 3) (h3 : okR r) : fMake 0 4 ms_Row l_Row [] [0, 1, 2] [.tup (s.map .int), .int e, rD r] = some (rowD s e (rD r)) := by
  unfold fMake
  simp [permL, own_tup, own_int, rD_own, preM, ms_Row, padE, b_ok, b_stuck, b_exc, a_def, f_ok, f_exc, k_rt, k_nx, a_do, a_set, a_set2, a_drop, a_ret, a_unp, a_seq, k_seq, k_seqr, k_seqb, k_seqc, a_op, k_op, a_c, a_var, a_b, k_b, a_then, k_and1, k_and0, k_or1, k_or0, k_andV1, k_andV0, k_orV1, k_orV0, k_if1, k_if0, k_ifS1, k_ifS0, k_ifT1, k_ifT0, k_notV, k_not, a_yes, a_no, a_next, a_never, a_par, k_par, a_for, k_for, a_i1, k_i1, a_io, k_io, a_call, k_call, a_callP, k_callP, a_chain, k_chain, a_mut, k_mut, a_sto, k_sto, a_lc, k_lc, a_new, a_gN, a_gT, d_lt, d_le, d_gt, d_ge, d_intB, ev, rds, chk, pAny, pTup, pInt, takeA, wbE, permL, padE, outE, gNs, own_int, own_bl, own_str, own_non, own_tup, own_ins, own_frl, own_lst, own_dic, dTup, dLst, dAdd, dSub, dMulS, dDiv, dMod, dNeg, dInt, dAbs, dIsN, dNotN, D.isNon, dLen, dItems, dIx, dTru, D.tru, D.seq, fSetL, fAppend, sizeLine_eq, rg1, rg2, rg3, rg4, rg5, rg6, rg7, rg8, a_raise, k_raise, a_par3, k_par3, a_try, kt_ok, kt_exc, hdl, sEnd, dropN, inR, dRev, a_fz, k_fzL, k_fzF, k_fzT, a_fzS, k_fzS, e_want_stones, h, e_want_ends, h1, h2, e_want_rule, h3, l_Row, rowD]

end K58

namespace K58
open PySem TV
def mxO : List Int → Option Int
  | [] => none
  | n :: ns => some (ns.foldl max n)

def mnO : List Int → Option Int
  | [] => none
  | n :: ns => some (ns.foldl min n)

def oD : Option Int → D
  | none => .non
  | some x => .int x

theorem oD_own (o : Option Int) : (oD o).own = false := by cases o <;> rfl

theorem foldl_max : ∀ (l : List Int) (n : Int), (l.foldl max n = n ∨ l.foldl max n ∈ l) ∧ n ≤ l.foldl max n ∧ ∀ y ∈ l, y ≤ l.foldl max n
  | [], n => ⟨.inl rfl, Int.le_refl _, fun y h => nomatch h⟩
  | a :: l, n => by
    obtain ⟨h1, h2, h3⟩ := foldl_max l (max n a)
    rw [List.foldl_cons]
    refine ⟨?_, by omega, fun y hy => ?_⟩
    · rcases h1 with h1 | h1
      · rw [h1]
        by_cases c : a ≤ n
        · left; omega
        · right; rw [show max n a = a by omega]; exact List.mem_cons_self
      · exact .inr (List.mem_cons_of_mem _ h1)
    · rcases List.mem_cons.mp hy with e | m
      · subst e; omega
      · exact h3 y m

theorem mxO_spec {l : List Int} {m : Int} (h : mxO l = some m) : m ∈ l ∧ ∀ y ∈ l, y ≤ m := by
  cases l with
  | nil => cases h
  | cons n ns =>
    cases h
    obtain ⟨h1, h2, h3⟩ := foldl_max ns n
    refine ⟨?_, fun y hy => ?_⟩
    · rcases h1 with h1 | h1
      · rw [h1]; exact List.mem_cons_self
      · exact List.mem_cons_of_mem _ h1
    · rcases List.mem_cons.mp hy with e | m
      · rw [e]; exact h2
      · exact h3 y m

theorem mxO_none {l : List Int} (h : mxO l = none) : l = [] := by
  cases l with
  | nil => rfl
  | cons => cases h

theorem foldl_min : ∀ (l : List Int) (n : Int), (l.foldl min n = n ∨ l.foldl min n ∈ l) ∧ l.foldl min n ≤ n ∧ ∀ y ∈ l, l.foldl min n ≤ y
  | [], n => ⟨.inl rfl, Int.le_refl _, fun y h => nomatch h⟩
  | a :: l, n => by
    obtain ⟨h1, h2, h3⟩ := foldl_min l (min n a)
    rw [List.foldl_cons]
    refine ⟨?_, by omega, fun y hy => ?_⟩
    · rcases h1 with h1 | h1
      · rw [h1]
        by_cases c : n ≤ a
        · left; omega
        · right; rw [show min n a = a by omega]; exact List.mem_cons_self
      · exact .inr (List.mem_cons_of_mem _ h1)
    · rcases List.mem_cons.mp hy with e | m
      · subst e; omega
      · exact h3 y m

theorem mnO_spec {l : List Int} {m : Int} (h : mnO l = some m) : m ∈ l ∧ ∀ y ∈ l, m ≤ y := by
  cases l with
  | nil => cases h
  | cons n ns =>
    cases h
    obtain ⟨h1, h2, h3⟩ := foldl_min ns n
    refine ⟨?_, fun y hy => ?_⟩
    · rcases h1 with h1 | h1
      · rw [h1]; exact List.mem_cons_self
      · exact List.mem_cons_of_mem _ h1
    · rcases List.mem_cons.mp hy with e | m
      · rw [e]; exact h2
      · exact h3 y m

theorem mnO_none {l : List Int} (h : mnO l = none) : l = [] := by
  cases l with
  | nil => rfl
  | cons => cases h

theorem max_tup (n : Int) (ns : List Int) : dMaxS [.tup ((n :: ns).map .int)] = some (.int (ns.foldl max n)) := by
  show (match dInts ((n :: ns).map D.int) with
    | some (n :: ns) => some (D.int (ns.foldl max n))
    | _ => none) = _
  rw [dInts_map]

theorem max_lst (n : Int) (ns : List Int) : dMaxS [.lst ((n :: ns).map .int)] = some (.int (ns.foldl max n)) := by
  show (match dInts ((n :: ns).map D.int) with
    | some (n :: ns) => some (D.int (ns.foldl max n))
    | _ => none) = _
  rw [dInts_map]

theorem min_lst (n : Int) (ns : List Int) : dMinS [.lst ((n :: ns).map .int)] = some (.int (ns.foldl min n)) := by
  show (match dInts ((n :: ns).map D.int) with
    | some (n :: ns) => some (D.int (ns.foldl min n))
    | _ => none) = _
  rw [dInts_map]

theorem min_tup (n : Int) (ns : List Int) : dMinS [.tup ((n :: ns).map .int)] = some (.int (ns.foldl min n)) := by
  show (match dInts ((n :: ns).map D.int) with
    | some (n :: ns) => some (D.int (ns.foldl min n))
    | _ => none) = _
  rw [dInts_map]

theorem e_greatest (l : List Int) : F_greatest [some (.tup (l.map .int))] = .ok (oD (mxO l), [some (.tup (l.map .int))]) := by
  unfold F_greatest m_greatest
  cases l with
  | nil => simp [b_ok, b_stuck, b_exc, a_def, f_ok, f_exc, k_rt, k_nx, a_do, a_set, a_set2, a_drop, a_ret, a_unp, a_seq, k_seq, k_seqr, k_seqb, k_seqc, a_op, k_op, a_c, a_var, a_b, k_b, a_then, k_and1, k_and0, k_or1, k_or0, k_andV1, k_andV0, k_orV1, k_orV0, k_if1, k_if0, k_ifS1, k_ifS0, k_ifT1, k_ifT0, k_notV, k_not, a_yes, a_no, a_next, a_never, a_par, k_par, a_for, k_for, a_i1, k_i1, a_io, k_io, a_call, k_call, a_callP, k_callP, a_chain, k_chain, a_mut, k_mut, a_sto, k_sto, a_lc, k_lc, a_new, a_gN, a_gT, d_lt, d_le, d_gt, d_ge, d_intB, ev, rds, chk, pAny, pTup, pInt, takeA, wbE, permL, padE, outE, gNs, own_int, own_bl, own_str, own_non, own_tup, own_ins, own_frl, own_lst, own_dic, dTup, dLst, dAdd, dSub, dMulS, dDiv, dMod, dNeg, dInt, dAbs, dIsN, dNotN, D.isNon, dLen, dItems, dIx, dTru, D.tru, D.seq, fSetL, fAppend, sizeLine_eq, rg1, rg2, rg3, rg4, rg5, rg6, rg7, rg8, a_raise, k_raise, a_par3, k_par3, a_try, kt_ok, kt_exc, hdl, sEnd, dropN, inR, dRev, a_fz, k_fzL, k_fzF, k_fzT, a_fzS, k_fzS, mxO, oD]
  | cons n ns =>
    have e := max_tup n ns
    simp only [List.map_cons] at e
    simp [b_ok, b_stuck, b_exc, a_def, f_ok, f_exc, k_rt, k_nx, a_do, a_set, a_set2, a_drop, a_ret, a_unp, a_seq, k_seq, k_seqr, k_seqb, k_seqc, a_op, k_op, a_c, a_var, a_b, k_b, a_then, k_and1, k_and0, k_or1, k_or0, k_andV1, k_andV0, k_orV1, k_orV0, k_if1, k_if0, k_ifS1, k_ifS0, k_ifT1, k_ifT0, k_notV, k_not, a_yes, a_no, a_next, a_never, a_par, k_par, a_for, k_for, a_i1, k_i1, a_io, k_io, a_call, k_call, a_callP, k_callP, a_chain, k_chain, a_mut, k_mut, a_sto, k_sto, a_lc, k_lc, a_new, a_gN, a_gT, d_lt, d_le, d_gt, d_ge, d_intB, ev, rds, chk, pAny, pTup, pInt, takeA, wbE, permL, padE, outE, gNs, own_int, own_bl, own_str, own_non, own_tup, own_ins, own_frl, own_lst, own_dic, dTup, dLst, dAdd, dSub, dMulS, dDiv, dMod, dNeg, dInt, dAbs, dIsN, dNotN, D.isNon, dLen, dItems, dIx, dTru, D.tru, D.seq, fSetL, fAppend, sizeLine_eq, rg1, rg2, rg3, rg4, rg5, rg6, rg7, rg8, a_raise, k_raise, a_par3, k_par3, a_try, kt_ok, kt_exc, hdl, sEnd, dropN, inR, dRev, a_fz, k_fzL, k_fzF, k_fzT, a_fzS, k_fzS, mxO, oD, e]

def cut (s : List Int) (i j : Nat) : List Int := (s.drop i).take (j - i)

theorem cut_11 (s : List Int) (i j : Nat) (hi : i ≤ s.length) (hj : j ≤ s.length) : dSl11 [.tup (s.map .int), .int i, .int j] = some (.tup ((cut s i j).map .int)) := by
  have e1 : HT.sIx (s.map D.int).length 0 (some (i : Int)) = i := by rw [HT.sIx_nat, List.length_map]; omega
  have e2 : HT.sIx (s.map D.int).length (s.map D.int).length (some (j : Int)) = j := by rw [HT.sIx_nat, List.length_map]; omega
  simp only [dSl11, dCut, cutD, e1, e2, cut, List.map_take, List.map_drop]

theorem cut_11b (s : List Int) (i j : Nat) (hi : i < s.length) (hj : j < s.length) : dSl11 [.tup (s.map .int), .int ((i : Int) + 1), .int ((j : Int) + 1)] = some (.tup ((cut s (i + 1) (j + 1)).map .int)) := by
  have := cut_11 s (i + 1) (j + 1) hi hj
  simpa using this

theorem cut_11c (s : List Int) (i j : Nat) (hi : i ≤ s.length) (hj : j < s.length) : dSl11 [.tup (s.map .int), .int i, .int ((j : Int) + 1)] = some (.tup ((cut s i (j + 1)).map .int)) := by
  have := cut_11 s i (j + 1) hi hj
  simpa using this

def kidA (s : List Int) (x : Int) : Option Int := mxO (cut s (lo s x) (ixOf x s))

def kidB (s : List Int) (x : Int) : Option Int := mxO (cut s (ixOf x s + 1) (hi s x + 1))

theorem ix_tup (s : List Int) (x : Int) (h : x ∈ s) : dIxT [.tup (s.map .int), .int x] = some (.int (ixOf x s)) := by
  simp [dIxT, dInts_map, h]

theorem e_lower (s : List Int) (e : Int) (r : D) (x : Int) (hx : x ∈ s) (hl : s.length ≤ 40) : F_lower [some (rowD s e r), some (.int x)] = .ok (.tup [oD (kidA s x), oD (kidB s x)], [some (rowD s e r), some (.int x)]) := by
  have h1 := ixOf_lt hx
  have h2 := hi_lt hx
  have h3 : lo s x ≤ s.length := Nat.le_of_lt (lo_lt hx)
  have c1 := cut_11 s (lo s x) (ixOf x s) h3 (Nat.le_of_lt h1)
  have c2 := cut_11b s (ixOf x s) (hi s x) h1 h2
  unfold F_lower m_lower
  simp [b_ok, b_stuck, b_exc, a_def, f_ok, f_exc, k_rt, k_nx, a_do, a_set, a_set2, a_drop, a_ret, a_unp, a_seq, k_seq, k_seqr, k_seqb, k_seqc, a_op, k_op, a_c, a_var, a_b, k_b, a_then, k_and1, k_and0, k_or1, k_or0, k_andV1, k_andV0, k_orV1, k_orV0, k_if1, k_if0, k_ifS1, k_ifS0, k_ifT1, k_ifT0, k_notV, k_not, a_yes, a_no, a_next, a_never, a_par, k_par, a_for, k_for, a_i1, k_i1, a_io, k_io, a_call, k_call, a_callP, k_callP, a_chain, k_chain, a_mut, k_mut, a_sto, k_sto, a_lc, k_lc, a_new, a_gN, a_gT, d_lt, d_le, d_gt, d_ge, d_intB, ev, rds, chk, pAny, pTup, pInt, takeA, wbE, permL, padE, outE, gNs, own_int, own_bl, own_str, own_non, own_tup, own_ins, own_frl, own_lst, own_dic, dTup, dLst, dAdd, dSub, dMulS, dDiv, dMod, dNeg, dInt, dAbs, dIsN, dNotN, D.isNon, dLen, dItems, dIx, dTru, D.tru, D.seq, fSetL, fAppend, sizeLine_eq, rg1, rg2, rg3, rg4, rg5, rg6, rg7, rg8, a_raise, k_raise, a_par3, k_par3, a_try, kt_ok, kt_exc, hdl, sEnd, dropN, inR, dRev, a_fz, k_fzL, k_fzF, k_fzT, a_fzS, k_fzS, own_row, e_span, hx, hl, f_stones, ix_tup, c1, c2, e_greatest, oD_own, kidA, kidB]

def aI (s : List Int) (i : Nat) : Option Int := if 0 < i then some (s.getD (i - 1) 0) else none

def bI (s : List Int) (j : Nat) : Option Int := if j + 1 < s.length then some (s.getD (j + 1) 0) else none

def clo (s : List Int) (x : Int) : List Int := (aI s (lo s x)).toList ++ (bI s (hi s x)).toList

def par (s : List Int) (x : Int) : Option Int := mnO (clo s x)

/-- whether a closer is a stone -/
def isI : D → Bool
  | .int _ => true
  | _ => false

theorem in_ow (d : D) (h : (∃ i, d = .int i) ∨ d = opn ∨ d = wal) : dInA true [d, .tup [.str "open", .str "wall"]] = some (.bl (isI d)) := by
  have w : ((Str.ofString "wall") == (Str.ofString "open")) = false := by decide +kernel
  have w2 : ((Str.ofString "open") == (Str.ofString "wall")) = false := by decide +kernel
  rcases h with ⟨i, rfl⟩ | rfl | rfl
  · simp [dInA, dInF, fl_str, D.fl, dItems, TV.fls, L2.inV, L2.eqV, isI]
  · simp [dInA, dInF, fl_str, D.fl, dItems, TV.fls, L2.inV, L2.eqV, isI, opn, w, w2]
  · simp [dInA, dInF, fl_str, D.fl, dItems, TV.fls, L2.inV, L2.eqV, isI, wal, w, w2]

theorem in_wo (d : D) (h : (∃ i, d = .int i) ∨ d = opn ∨ d = wal) : dInA true [d, .tup [.str "wall", .str "open"]] = some (.bl (isI d)) := by
  have w : ((Str.ofString "wall") == (Str.ofString "open")) = false := by decide +kernel
  have w2 : ((Str.ofString "open") == (Str.ofString "wall")) = false := by decide +kernel
  rcases h with ⟨i, rfl⟩ | rfl | rfl
  · simp [dInA, dInF, fl_str, D.fl, dItems, TV.fls, L2.inV, L2.eqV, isI]
  · simp [dInA, dInF, fl_str, D.fl, dItems, TV.fls, L2.inV, L2.eqV, isI, opn, w, w2]
  · simp [dInA, dInF, fl_str, D.fl, dItems, TV.fls, L2.inV, L2.eqV, isI, wal, w, w2]

theorem aD_is (s : List Int) (e : Int) (i : Nat) : (∃ k, aD s e i = .int k) ∨ aD s e i = opn ∨ aD s e i = wal := by
  unfold aD
  split
  · exact .inl ⟨_, rfl⟩
  · split
    · exact .inr (.inr rfl)
    · exact .inr (.inl rfl)

theorem bD_is (s : List Int) (e : Int) (i : Nat) : (∃ k, bD s e i = .int k) ∨ bD s e i = opn ∨ bD s e i = wal := by
  unfold bD
  split
  · exact .inl ⟨_, rfl⟩
  · split
    · exact .inr (.inr rfl)
    · exact .inr (.inl rfl)

theorem aI_D (s : List Int) (e : Int) (i : Nat) : [aD s e i].filter isI = (aI s i).toList.map .int := by
  unfold aD aI
  by_cases c : 0 < i
  · simp [c, isI]
  · simp only [c, if_false]
    split <;> simp [isI, wal, opn]

theorem bI_D (s : List Int) (e : Int) (i : Nat) : [bD s e i].filter isI = (bI s i).toList.map .int := by
  unfold bD bI
  by_cases c : i + 1 < s.length
  · simp [c, isI]
  · simp only [c, if_false]
    split <;> simp [isI, wal, opn]

theorem clo_D (s : List Int) (e : Int) (x : Int) : [aD s e (lo s x), bD s e (hi s x)].filter isI = (clo s x).map .int := by
  have e1 : [aD s e (lo s x), bD s e (hi s x)] = [aD s e (lo s x)] ++ [bD s e (hi s x)] := rfl
  rw [e1, List.filter_append, aI_D, bI_D, ← List.map_append]
  rfl

theorem e_upper (s : List Int) (e : Int) (r : D) (x : Int) (hx : x ∈ s) (hl : s.length ≤ 40) : F_upper [some (rowD s e r), some (.int x)] = .ok (oD (par s x), [some (rowD s e r), some (.int x)]) := by
  have lc := lc_run (vs := [5]) (i := 5) (t := t_upper_1) (u := u_upper_2) (ρ := [some (rowD s e r), some (.int x), some (.int (lo s x)), some (.int (hi s x)), none, none])
    (b := isI) (g := id) [aD s e (lo s x), bD s e (hi s x)] [] (fun d hd => ?_) (by simp [sizeLine_eq])
  · rw [List.nil_append, List.map_id, clo_D] at lc
    unfold F_upper m_upper
    simp only [par]
    cases hc : clo s x with
    | nil =>
      rw [hc] at lc
      simp [b_ok, b_stuck, b_exc, a_def, f_ok, f_exc, k_rt, k_nx, a_do, a_set, a_set2, a_drop, a_ret, a_unp, a_seq, k_seq, k_seqr, k_seqb, k_seqc, a_op, k_op, a_c, a_var, a_b, k_b, a_then, k_and1, k_and0, k_or1, k_or0, k_andV1, k_andV0, k_orV1, k_orV0, k_if1, k_if0, k_ifS1, k_ifS0, k_ifT1, k_ifT0, k_notV, k_not, a_yes, a_no, a_next, a_never, a_par, k_par, a_for, k_for, a_i1, k_i1, a_io, k_io, a_call, k_call, a_callP, k_callP, a_chain, k_chain, a_mut, k_mut, a_sto, k_sto, a_lc, k_lc, a_new, a_gN, a_gT, d_lt, d_le, d_gt, d_ge, d_intB, ev, rds, chk, pAny, pTup, pInt, takeA, wbE, permL, padE, outE, gNs, own_int, own_bl, own_str, own_non, own_tup, own_ins, own_frl, own_lst, own_dic, dTup, dLst, dAdd, dSub, dMulS, dDiv, dMod, dNeg, dInt, dAbs, dIsN, dNotN, D.isNon, dLen, dItems, dIx, dTru, D.tru, D.seq, fSetL, fAppend, sizeLine_eq, rg1, rg2, rg3, rg4, rg5, rg6, rg7, rg8, a_raise, k_raise, a_par3, k_par3, a_try, kt_ok, kt_exc, hdl, sEnd, dropN, inR, dRev, a_fz, k_fzL, k_fzF, k_fzT, a_fzS, k_fzS, own_row, e_span, hx, hl, e_beside, lo_lt, hi_lt, wipeE, lc, mnO, oD]
    | cons n ns =>
      rw [hc] at lc
      have em := min_lst n ns
      simp only [List.map_cons] at em lc
      simp [b_ok, b_stuck, b_exc, a_def, f_ok, f_exc, k_rt, k_nx, a_do, a_set, a_set2, a_drop, a_ret, a_unp, a_seq, k_seq, k_seqr, k_seqb, k_seqc, a_op, k_op, a_c, a_var, a_b, k_b, a_then, k_and1, k_and0, k_or1, k_or0, k_andV1, k_andV0, k_orV1, k_orV0, k_if1, k_if0, k_ifS1, k_ifS0, k_ifT1, k_ifT0, k_notV, k_not, a_yes, a_no, a_next, a_never, a_par, k_par, a_for, k_for, a_i1, k_i1, a_io, k_io, a_call, k_call, a_callP, k_callP, a_chain, k_chain, a_mut, k_mut, a_sto, k_sto, a_lc, k_lc, a_new, a_gN, a_gT, d_lt, d_le, d_gt, d_ge, d_intB, ev, rds, chk, pAny, pTup, pInt, takeA, wbE, permL, padE, outE, gNs, own_int, own_bl, own_str, own_non, own_tup, own_ins, own_frl, own_lst, own_dic, dTup, dLst, dAdd, dSub, dMulS, dDiv, dMod, dNeg, dInt, dAbs, dIsN, dNotN, D.isNon, dLen, dItems, dIx, dTru, D.tru, D.seq, fSetL, fAppend, sizeLine_eq, rg1, rg2, rg3, rg4, rg5, rg6, rg7, rg8, a_raise, k_raise, a_par3, k_par3, a_try, kt_ok, kt_exc, hdl, sEnd, dropN, inR, dRev, a_fz, k_fzL, k_fzF, k_fzT, a_fzS, k_fzS, own_row, e_span, hx, hl, e_beside, lo_lt, hi_lt, wipeE, lc, mnO, oD, em]
  · have hd' : (∃ k, d = .int k) ∨ d = opn ∨ d = wal := by
      simp only [List.mem_cons, List.not_mem_nil, or_false] at hd
      rcases hd with rfl | rfl
      · exact aD_is ..
      · exact bD_is ..
    have e1 := in_ow d hd'
    have e2 : d.own = false := by rcases hd' with ⟨k, rfl⟩ | rfl | rfl <;> rfl
    simp [t_upper_1, u_upper_2, b_ok, b_stuck, b_exc, a_def, f_ok, f_exc, k_rt, k_nx, a_do, a_set, a_set2, a_drop, a_ret, a_unp, a_seq, k_seq, k_seqr, k_seqb, k_seqc, a_op, k_op, a_c, a_var, a_b, k_b, a_then, k_and1, k_and0, k_or1, k_or0, k_andV1, k_andV0, k_orV1, k_orV0, k_if1, k_if0, k_ifS1, k_ifS0, k_ifT1, k_ifT0, k_notV, k_not, a_yes, a_no, a_next, a_never, a_par, k_par, a_for, k_for, a_i1, k_i1, a_io, k_io, a_call, k_call, a_callP, k_callP, a_chain, k_chain, a_mut, k_mut, a_sto, k_sto, a_lc, k_lc, a_new, a_gN, a_gT, d_lt, d_le, d_gt, d_ge, d_intB, ev, rds, chk, pAny, pTup, pInt, takeA, wbE, permL, padE, outE, gNs, own_int, own_bl, own_str, own_non, own_tup, own_ins, own_frl, own_lst, own_dic, dTup, dLst, dAdd, dSub, dMulS, dDiv, dMod, dNeg, dInt, dAbs, dIsN, dNotN, D.isNon, dLen, dItems, dIx, dTru, D.tru, D.seq, fSetL, fAppend, sizeLine_eq, rg1, rg2, rg3, rg4, rg5, rg6, rg7, rg8, a_raise, k_raise, a_par3, k_par3, a_try, kt_ok, kt_exc, hdl, sEnd, dropN, inR, dRev, a_fz, k_fzL, k_fzF, k_fzT, a_fzS, k_fzS, own_row, e1, e2, wipeE]

theorem e_want_stone (s : List Int) (e : Int) (r : D) (x : Int) (hx : x ∈ s) : F_want_stone [some (rowD s e r), some (.int x)] = .ok (.non, [some (rowD s e r), some (.int x)]) := by
  have i1 := in_not (in_ints x s)
  unfold F_want_stone m_want_stone
  simp [b_ok, b_stuck, b_exc, a_def, f_ok, f_exc, k_rt, k_nx, a_do, a_set, a_set2, a_drop, a_ret, a_unp, a_seq, k_seq, k_seqr, k_seqb, k_seqc, a_op, k_op, a_c, a_var, a_b, k_b, a_then, k_and1, k_and0, k_or1, k_or0, k_andV1, k_andV0, k_orV1, k_orV0, k_if1, k_if0, k_ifS1, k_ifS0, k_ifT1, k_ifT0, k_notV, k_not, a_yes, a_no, a_next, a_never, a_par, k_par, a_for, k_for, a_i1, k_i1, a_io, k_io, a_call, k_call, a_callP, k_callP, a_chain, k_chain, a_mut, k_mut, a_sto, k_sto, a_lc, k_lc, a_new, a_gN, a_gT, d_lt, d_le, d_gt, d_ge, d_intB, ev, rds, chk, pAny, pTup, pInt, takeA, wbE, permL, padE, outE, gNs, own_int, own_bl, own_str, own_non, own_tup, own_ins, own_frl, own_lst, own_dic, dTup, dLst, dAdd, dSub, dMulS, dDiv, dMod, dNeg, dInt, dAbs, dIsN, dNotN, D.isNon, dLen, dItems, dIx, dTru, D.tru, D.seq, fSetL, fAppend, sizeLine_eq, rg1, rg2, rg3, rg4, rg5, rg6, rg7, rg8, a_raise, k_raise, a_par3, k_par3, a_try, kt_ok, kt_exc, hdl, sEnd, dropN, inR, dRev, a_fz, k_fzL, k_fzF, k_fzT, a_fzS, k_fzS, own_row, f_stones, i1, hx]

theorem pIns_row (s : List Int) (e : Int) (r : D) : pIns 0 (rowD s e r) = true := rfl

theorem e_place (s : List Int) (e : Int) (r : D) (x : Int) (hx : x ∈ s) : F_Row_place [some (rowD s e r), some (.int x)] = .ok (.int (ixOf x s), [some (rowD s e r), some (.int x)]) := by
  unfold F_Row_place m_Row_place
  simp [b_ok, b_stuck, b_exc, a_def, f_ok, f_exc, k_rt, k_nx, a_do, a_set, a_set2, a_drop, a_ret, a_unp, a_seq, k_seq, k_seqr, k_seqb, k_seqc, a_op, k_op, a_c, a_var, a_b, k_b, a_then, k_and1, k_and0, k_or1, k_or0, k_andV1, k_andV0, k_orV1, k_orV0, k_if1, k_if0, k_ifS1, k_ifS0, k_ifT1, k_ifT0, k_notV, k_not, a_yes, a_no, a_next, a_never, a_par, k_par, a_for, k_for, a_i1, k_i1, a_io, k_io, a_call, k_call, a_callP, k_callP, a_chain, k_chain, a_mut, k_mut, a_sto, k_sto, a_lc, k_lc, a_new, a_gN, a_gT, d_lt, d_le, d_gt, d_ge, d_intB, ev, rds, chk, pAny, pTup, pInt, takeA, wbE, permL, padE, outE, gNs, own_int, own_bl, own_str, own_non, own_tup, own_ins, own_frl, own_lst, own_dic, dTup, dLst, dAdd, dSub, dMulS, dDiv, dMod, dNeg, dInt, dAbs, dIsN, dNotN, D.isNon, dLen, dItems, dIx, dTru, D.tru, D.seq, fSetL, fAppend, sizeLine_eq, rg1, rg2, rg3, rg4, rg5, rg6, rg7, rg8, a_raise, k_raise, a_par3, k_par3, a_try, kt_ok, kt_exc, hdl, sEnd, dropN, inR, dRev, a_fz, k_fzL, k_fzF, k_fzT, a_fzS, k_fzS, own_row, f_stones, e_want_stone, ix_tup, hx]

def ahO (s : List Int) (x : Int) : Option Int → Bool
  | none => true
  | some y => decide (ixOf x s < ixOf y s)

theorem e_is_ahead (s : List Int) (e : Int) (r : D) (x : Int) (y : Option Int) (hx : x ∈ s) (hy : ∀ z, y = some z → z ∈ s) : F_is_ahead [some (rowD s e r), some (.int x), some (oD y)] = .ok (.bl (ahO s x y), [some (rowD s e r), some (.int x), some (oD y)]) := by
  unfold F_is_ahead m_is_ahead
  cases y with
  | none => simp [b_ok, b_stuck, b_exc, a_def, f_ok, f_exc, k_rt, k_nx, a_do, a_set, a_set2, a_drop, a_ret, a_unp, a_seq, k_seq, k_seqr, k_seqb, k_seqc, a_op, k_op, a_c, a_var, a_b, k_b, a_then, k_and1, k_and0, k_or1, k_or0, k_andV1, k_andV0, k_orV1, k_orV0, k_if1, k_if0, k_ifS1, k_ifS0, k_ifT1, k_ifT0, k_notV, k_not, a_yes, a_no, a_next, a_never, a_par, k_par, a_for, k_for, a_i1, k_i1, a_io, k_io, a_call, k_call, a_callP, k_callP, a_chain, k_chain, a_mut, k_mut, a_sto, k_sto, a_lc, k_lc, a_new, a_gN, a_gT, d_lt, d_le, d_gt, d_ge, d_intB, ev, rds, chk, pAny, pTup, pInt, takeA, wbE, permL, padE, outE, gNs, own_int, own_bl, own_str, own_non, own_tup, own_ins, own_frl, own_lst, own_dic, dTup, dLst, dAdd, dSub, dMulS, dDiv, dMod, dNeg, dInt, dAbs, dIsN, dNotN, D.isNon, dLen, dItems, dIx, dTru, D.tru, D.seq, fSetL, fAppend, sizeLine_eq, rg1, rg2, rg3, rg4, rg5, rg6, rg7, rg8, a_raise, k_raise, a_par3, k_par3, a_try, kt_ok, kt_exc, hdl, sEnd, dropN, inR, dRev, a_fz, k_fzL, k_fzF, k_fzT, a_fzS, k_fzS, own_row, oD, ahO]
  | some y =>
    have hy := hy y rfl
    simp [b_ok, b_stuck, b_exc, a_def, f_ok, f_exc, k_rt, k_nx, a_do, a_set, a_set2, a_drop, a_ret, a_unp, a_seq, k_seq, k_seqr, k_seqb, k_seqc, a_op, k_op, a_c, a_var, a_b, k_b, a_then, k_and1, k_and0, k_or1, k_or0, k_andV1, k_andV0, k_orV1, k_orV0, k_if1, k_if0, k_ifS1, k_ifS0, k_ifT1, k_ifT0, k_notV, k_not, a_yes, a_no, a_next, a_never, a_par, k_par, a_for, k_for, a_i1, k_i1, a_io, k_io, a_call, k_call, a_callP, k_callP, a_chain, k_chain, a_mut, k_mut, a_sto, k_sto, a_lc, k_lc, a_new, a_gN, a_gT, d_lt, d_le, d_gt, d_ge, d_intB, ev, rds, chk, pAny, pTup, pInt, takeA, wbE, permL, padE, outE, gNs, own_int, own_bl, own_str, own_non, own_tup, own_ins, own_frl, own_lst, own_dic, dTup, dLst, dAdd, dSub, dMulS, dDiv, dMod, dNeg, dInt, dAbs, dIsN, dNotN, D.isNon, dLen, dItems, dIx, dTru, D.tru, D.seq, fSetL, fAppend, sizeLine_eq, rg1, rg2, rg3, rg4, rg5, rg6, rg7, rg8, a_raise, k_raise, a_par3, k_par3, a_try, kt_ok, kt_exc, hdl, sEnd, dropN, inR, dRev, a_fz, k_fzL, k_fzF, k_fzT, a_fzS, k_fzS, own_row, oD, ahO, e_place, hx, hy, pIns_row]

def kids (s : List Int) (x : Int) : List Int := (kidA s x).toList ++ (kidB s x).toList

def isN : D → Bool
  | .non => false
  | _ => true

theorem oD_isN (o : Option Int) : [oD o].filter isN = o.toList.map .int := by cases o <;> rfl

theorem kids_D (s : List Int) (x : Int) : [oD (kidA s x), oD (kidB s x)].filter isN = (kids s x).map .int := by
  have e1 : [oD (kidA s x), oD (kidB s x)] = [oD (kidA s x)] ++ [oD (kidB s x)] := rfl
  rw [e1, List.filter_append, oD_isN, oD_isN, ← List.map_append]
  rfl

theorem oD_non (o : Option Int) : isN (oD o) = !(oD o).isNon ∧ (oD o).own = false := by cases o <;> exact ⟨rfl, rfl⟩

theorem e_greater_child (s : List Int) (e : Int) (r : D) (x c : Int) (hx : x ∈ s) (hl : s.length ≤ 40) (hc : mxO (kids s x) = some c) : F_greater_child [some (rowD s e r), some (.int x)] = .ok (.int c, [some (rowD s e r), some (.int x)]) := by
  have lc := lc_run (vs := [2]) (i := 2) (t := t_greater_child_1) (u := u_greater_child_2) (ρ := [some (rowD s e r), some (.int x), none])
    (b := isN) (g := id) [oD (kidA s x), oD (kidB s x)] [] (fun d hd => ?_) (by simp [sizeLine_eq])
  · rw [List.nil_append, List.map_id, kids_D] at lc
    unfold F_greater_child m_greater_child
    cases hk : kids s x with
    | nil => rw [hk] at hc; cases hc
    | cons n ns =>
      rw [hk] at lc hc
      cases hc
      have em := max_lst n ns
      simp only [List.map_cons] at em lc
      simp [b_ok, b_stuck, b_exc, a_def, f_ok, f_exc, k_rt, k_nx, a_do, a_set, a_set2, a_drop, a_ret, a_unp, a_seq, k_seq, k_seqr, k_seqb, k_seqc, a_op, k_op, a_c, a_var, a_b, k_b, a_then, k_and1, k_and0, k_or1, k_or0, k_andV1, k_andV0, k_orV1, k_orV0, k_if1, k_if0, k_ifS1, k_ifS0, k_ifT1, k_ifT0, k_notV, k_not, a_yes, a_no, a_next, a_never, a_par, k_par, a_for, k_for, a_i1, k_i1, a_io, k_io, a_call, k_call, a_callP, k_callP, a_chain, k_chain, a_mut, k_mut, a_sto, k_sto, a_lc, k_lc, a_new, a_gN, a_gT, d_lt, d_le, d_gt, d_ge, d_intB, ev, rds, chk, pAny, pTup, pInt, takeA, wbE, permL, padE, outE, gNs, own_int, own_bl, own_str, own_non, own_tup, own_ins, own_frl, own_lst, own_dic, dTup, dLst, dAdd, dSub, dMulS, dDiv, dMod, dNeg, dInt, dAbs, dIsN, dNotN, D.isNon, dLen, dItems, dIx, dTru, D.tru, D.seq, fSetL, fAppend, sizeLine_eq, rg1, rg2, rg3, rg4, rg5, rg6, rg7, rg8, a_raise, k_raise, a_par3, k_par3, a_try, kt_ok, kt_exc, hdl, sEnd, dropN, inR, dRev, a_fz, k_fzL, k_fzF, k_fzT, a_fzS, k_fzS, own_row, e_lower, hx, hl, wipeE, lc, em]
  · have e1 : isN d = !d.isNon ∧ d.own = false := by
      simp only [List.mem_cons, List.not_mem_nil, or_false] at hd
      rcases hd with rfl | rfl <;> exact oD_non _
    simp [t_greater_child_1, u_greater_child_2, b_ok, b_stuck, b_exc, a_def, f_ok, f_exc, k_rt, k_nx, a_do, a_set, a_set2, a_drop, a_ret, a_unp, a_seq, k_seq, k_seqr, k_seqb, k_seqc, a_op, k_op, a_c, a_var, a_b, k_b, a_then, k_and1, k_and0, k_or1, k_or0, k_andV1, k_andV0, k_orV1, k_orV0, k_if1, k_if0, k_ifS1, k_ifS0, k_ifT1, k_ifT0, k_notV, k_not, a_yes, a_no, a_next, a_never, a_par, k_par, a_for, k_for, a_i1, k_i1, a_io, k_io, a_call, k_call, a_callP, k_callP, a_chain, k_chain, a_mut, k_mut, a_sto, k_sto, a_lc, k_lc, a_new, a_gN, a_gT, d_lt, d_le, d_gt, d_ge, d_intB, ev, rds, chk, pAny, pTup, pInt, takeA, wbE, permL, padE, outE, gNs, own_int, own_bl, own_str, own_non, own_tup, own_ins, own_frl, own_lst, own_dic, dTup, dLst, dAdd, dSub, dMulS, dDiv, dMod, dNeg, dInt, dAbs, dIsN, dNotN, D.isNon, dLen, dItems, dIx, dTru, D.tru, D.seq, fSetL, fAppend, sizeLine_eq, rg1, rg2, rg3, rg4, rg5, rg6, rg7, rg8, a_raise, k_raise, a_par3, k_par3, a_try, kt_ok, kt_exc, hdl, sEnd, dropN, inR, dRev, a_fz, k_fzL, k_fzF, k_fzT, a_fzS, k_fzS, own_row, e1, wipeE]

def gcO (s : List Int) (x : Int) : Option Int := mxO (kids s x)

/-- the sense of a head -/
def sns (s : List Int) (x : Int) : Bool := (match gcO s x with | some c => decide (ixOf c s < ixOf x s) | none => false) != ahO s x (par s x)

theorem clo_mem {s : List Int} {x : Int} (hx : x ∈ s) : ∀ z ∈ clo s x, z ∈ s := fun z hz => by
  unfold clo aI bI at hz
  rcases List.mem_append.mp hz with h | h
  · split at h
    · rename_i c
      have e : z = s.getD (lo s x - 1) 0 := by simpa using h
      have l : lo s x - 1 < s.length := by have := lo_lt hx; omega
      rw [e, List.getD_eq_getElem?_getD, List.getElem?_eq_getElem l]
      exact List.getElem_mem l
    · cases h
  · split at h
    · rename_i c
      have e : z = s.getD (hi s x + 1) 0 := by simpa using h
      rw [e, List.getD_eq_getElem?_getD, List.getElem?_eq_getElem c]
      exact List.getElem_mem c
    · cases h

theorem par_mem {s : List Int} {x : Int} (hx : x ∈ s) : ∀ z, par s x = some z → z ∈ s := fun z h => clo_mem hx z (mnO_spec h).1

theorem cut_mem {s : List Int} {i j : Nat} {z : Int} (h : z ∈ cut s i j) : z ∈ s := List.mem_of_mem_drop (List.mem_of_mem_take h)

theorem cut_len (s : List Int) (i j : Nat) (h1 : i ≤ j) (h2 : j ≤ s.length) : (cut s i j).length = j - i := by
  unfold cut
  rw [List.length_take, List.length_drop]
  omega

theorem kids_mem {s : List Int} {x : Int} : ∀ z ∈ kids s x, z ∈ s := fun z hz => by
  unfold kids kidA kidB at hz
  rcases List.mem_append.mp hz with h | h
  · exact cut_mem (mxO_spec (by simpa using h)).1
  · exact cut_mem (mxO_spec (by simpa using h)).1

theorem lo_le_ix (s : List Int) (x : Int) : lo s x ≤ ixOf x s := dn_le _

theorem ix_le_hi (s : List Int) (x : Int) : ixOf x s ≤ hi s x := up_ge _ _

/-- a head has a child -/
theorem kids_ne {s : List Int} {x : Int} (hx : x ∈ s) (h : lo s x < hi s x) : ∃ c, gcO s x = some c ∧ c ∈ s := by
  have h1 := lo_le_ix s x
  have h2 := ix_le_hi s x
  have h3 := hi_lt hx
  have ne : kids s x ≠ [] := by
    intro e
    unfold kids at e
    rw [List.append_eq_nil_iff] at e
    have a1 : kidA s x = none := by cases h : kidA s x <;> simp_all
    have a2 : kidB s x = none := by cases h : kidB s x <;> simp_all
    have b1 := congrArg List.length (mxO_none a1)
    have b2 := congrArg List.length (mxO_none a2)
    rw [cut_len _ _ _ h1 (by omega)] at b1
    rw [cut_len _ _ _ (by omega) (by omega)] at b2
    simp at b1 b2
    omega
  cases hc : gcO s x with
  | none => exact absurd (mxO_none hc) ne
  | some c => exact ⟨c, rfl, kids_mem c (mxO_spec hc).1⟩

theorem d_neB {x y : Bool} : dNe [.bl x, .bl y] = some (.bl (x != y)) := by
  cases x <;> cases y <;> rfl

theorem d_intBl {k : Bool} : dInt [.bl k] = some (.int (if k then 1 else 0)) := rfl

def snsI (s : List Int) (x : Int) : Int := if sns s x = true then 1 else 0

theorem e_sense_of (s : List Int) (e : Int) (r : D) (x : Int) (hx : x ∈ s) (hl : s.length ≤ 40) (h : lo s x < hi s x) : F_sense_of [some (rowD s e r), some (.int x)] = .ok (.int (snsI s x), [some (rowD s e r), some (.int x)]) := by
  obtain ⟨c, hc, hm⟩ := kids_ne hx h
  have e1 := e_is_ahead s e r c (some x) hm (fun z e => by cases e; exact hx)
  have e2 := e_is_ahead s e r x (par s x) hx (par_mem hx)
  have o1 := oD_own (par s x)
  unfold F_sense_of m_sense_of
  have e3 : ahO s c (some x) = decide (ixOf c s < ixOf x s) := rfl
  rw [show oD (some x) = .int x from rfl, e3] at e1
  simp [b_ok, b_stuck, b_exc, a_def, f_ok, f_exc, k_rt, k_nx, a_do, a_set, a_set2, a_drop, a_ret, a_unp, a_seq, k_seq, k_seqr, k_seqb, k_seqc, a_op, k_op, a_c, a_var, a_b, k_b, a_then, k_and1, k_and0, k_or1, k_or0, k_andV1, k_andV0, k_orV1, k_orV0, k_if1, k_if0, k_ifS1, k_ifS0, k_ifT1, k_ifT0, k_notV, k_not, a_yes, a_no, a_next, a_never, a_par, k_par, a_for, k_for, a_i1, k_i1, a_io, k_io, a_call, k_call, a_callP, k_callP, a_chain, k_chain, a_mut, k_mut, a_sto, k_sto, a_lc, k_lc, a_new, a_gN, a_gT, d_lt, d_le, d_gt, d_ge, d_intB, ev, rds, chk, pAny, pTup, pInt, takeA, wbE, permL, padE, outE, gNs, own_int, own_bl, own_str, own_non, own_tup, own_ins, own_frl, own_lst, own_dic, dTup, dLst, dAdd, dSub, dMulS, dDiv, dMod, dNeg, dInt, dAbs, dIsN, dNotN, D.isNon, dLen, dItems, dIx, dTru, D.tru, D.seq, fSetL, fAppend, sizeLine_eq, rg1, rg2, rg3, rg4, rg5, rg6, rg7, rg8, a_raise, k_raise, a_par3, k_par3, a_try, kt_ok, kt_exc, hdl, sEnd, dropN, inR, dRev, a_fz, k_fzL, k_fzF, k_fzT, a_fzS, k_fzS, own_row, o1, e_greater_child s e r x c hx hl hc, e1, e_upper, hx, hl, e2, d_neB, d_intBl, snsI, sns, hc]

theorem head_lt {s : List Int} {e x : Int} (h : head s e x = true) : lo s x < hi s x := by
  rw [head_law] at h
  simp at h
  exact h.1

theorem e_is_head' (s : List Int) (e : Int) (r : D) (x : Int) (hl : s.length ≤ 40) : F_is_head [some (rowD s e r), some (.int x)] = .ok (.bl (decide (x ∈ s) && head s e x), [some (rowD s e r), some (.int x)]) := by
  by_cases hx : x ∈ s
  · simp [e_is_head s e r x hx hl, hx]
  · have i1 := in_ints x s
    unfold F_is_head m_is_head
    simp [b_ok, b_stuck, b_exc, a_def, f_ok, f_exc, k_rt, k_nx, a_do, a_set, a_set2, a_drop, a_ret, a_unp, a_seq, k_seq, k_seqr, k_seqb, k_seqc, a_op, k_op, a_c, a_var, a_b, k_b, a_then, k_and1, k_and0, k_or1, k_or0, k_andV1, k_andV0, k_orV1, k_orV0, k_if1, k_if0, k_ifS1, k_ifS0, k_ifT1, k_ifT0, k_notV, k_not, a_yes, a_no, a_next, a_never, a_par, k_par, a_for, k_for, a_i1, k_i1, a_io, k_io, a_call, k_call, a_callP, k_callP, a_chain, k_chain, a_mut, k_mut, a_sto, k_sto, a_lc, k_lc, a_new, a_gN, a_gT, d_lt, d_le, d_gt, d_ge, d_intB, ev, rds, chk, pAny, pTup, pInt, takeA, wbE, permL, padE, outE, gNs, own_int, own_bl, own_str, own_non, own_tup, own_ins, own_frl, own_lst, own_dic, dTup, dLst, dAdd, dSub, dMulS, dDiv, dMod, dNeg, dInt, dAbs, dIsN, dNotN, D.isNon, dLen, dItems, dIx, dTru, D.tru, D.seq, fSetL, fAppend, sizeLine_eq, rg1, rg2, rg3, rg4, rg5, rg6, rg7, rg8, a_raise, k_raise, a_par3, k_par3, a_try, kt_ok, kt_exc, hdl, sEnd, dropN, inR, dRev, a_fz, k_fzL, k_fzF, k_fzT, a_fzS, k_fzS, own_row, f_stones, i1, hx]

theorem e_sense_ok (s : List Int) (e : Int) (r : D) (x : Int) (hx : x ∈ s) (hl : s.length ≤ 40) (h : head s e x = true) : F_sense [some (rowD s e r), some (.int x)] = .ok (.int (snsI s x), [some (rowD s e r), some (.int x)]) := by
  have h2 := head_lt h
  unfold F_sense m_sense
  simp [b_ok, b_stuck, b_exc, a_def, f_ok, f_exc, k_rt, k_nx, a_do, a_set, a_set2, a_drop, a_ret, a_unp, a_seq, k_seq, k_seqr, k_seqb, k_seqc, a_op, k_op, a_c, a_var, a_b, k_b, a_then, k_and1, k_and0, k_or1, k_or0, k_andV1, k_andV0, k_orV1, k_orV0, k_if1, k_if0, k_ifS1, k_ifS0, k_ifT1, k_ifT0, k_notV, k_not, a_yes, a_no, a_next, a_never, a_par, k_par, a_for, k_for, a_i1, k_i1, a_io, k_io, a_call, k_call, a_callP, k_callP, a_chain, k_chain, a_mut, k_mut, a_sto, k_sto, a_lc, k_lc, a_new, a_gN, a_gT, d_lt, d_le, d_gt, d_ge, d_intB, ev, rds, chk, pAny, pTup, pInt, takeA, wbE, permL, padE, outE, gNs, own_int, own_bl, own_str, own_non, own_tup, own_ins, own_frl, own_lst, own_dic, dTup, dLst, dAdd, dSub, dMulS, dDiv, dMod, dNeg, dInt, dAbs, dIsN, dNotN, D.isNon, dLen, dItems, dIx, dTru, D.tru, D.seq, fSetL, fAppend, sizeLine_eq, rg1, rg2, rg3, rg4, rg5, rg6, rg7, rg8, a_raise, k_raise, a_par3, k_par3, a_try, kt_ok, kt_exc, hdl, sEnd, dropN, inR, dRev, a_fz, k_fzL, k_fzF, k_fzT, a_fzS, k_fzS, own_row, e_is_head', hx, hl, h, e_sense_of, h2]

theorem clo_DL (s : List Int) (e : Int) (x : Int) (h1 : 0 ≤ e) (h2 : e ≤ 3) : [aD s e (lo s x), cD s e (hi s x)].filter isI = (clo s x).map .int := by
  rw [cD_eq h1 h2]
  exact clo_D s e x

theorem pds_ints : ∀ l : List Int, D.pds (l.map D.int) = some (l.map PyData.int)
  | [] => rfl
  | a :: l => by simp [D.pds, D.pd, pds_ints l]

theorem lay_ints : ∀ l : List Int, PyData.canLayAll0 (l.map PyData.int) = true ∧ PyData.depthAll (l.map PyData.int) = 0
  | [] => ⟨rfl, rfl⟩
  | a :: l => by simp [PyData.canLayAll0, PyData.canLay0, PyData.depthAll, PyData.depth, lay_ints l]

theorem shp_list (l : List Int) : SeqAt.shaped (.list (l.map .int)) = true := by
  unfold SeqAt.shaped
  simp [PyData.canLay0, lay_ints, PyData.depth]

theorem shp_tup (l : List Int) : SeqAt.shaped (.tuple (l.map .int)) = true := by
  unfold SeqAt.shaped
  simp [PyData.canLay0, lay_ints, PyData.depth]

theorem ne_nil (l : List Int) : dNe [.lst (l.map .int), .lst []] = some (.bl (!l.isEmpty)) := by
  cases l with
  | nil => exact d_neS (d := .lst []) rfl
  | cons n ns => exact (d_neU (p := .list ((n :: ns).map .int)) (q := .list []) (by simp only [D.pd, pds_ints]; rfl) rfl (shp_list _) (shp_list []) rfl).1

theorem ne_nilT (l : List Int) : dNe [.tup (l.map .int), .tup []] = some (.bl (!l.isEmpty)) := by
  cases l with
  | nil => exact d_neS (d := .tup []) rfl
  | cons n ns => exact (d_neU (p := .tuple ((n :: ns).map .int)) (q := .tuple []) (by simp only [D.pd, pds_ints]; rfl) rfl (shp_tup _) (shp_tup []) rfl).1

theorem eq_nil (l : List Int) : dEq [.lst (l.map .int), .lst []] = some (.bl l.isEmpty) := by
  cases l with
  | nil => exact d_eqS (d := .lst []) rfl
  | cons n ns => exact (d_neU (p := .list ((n :: ns).map .int)) (q := .list []) (by simp only [D.pd, pds_ints]; rfl) rfl (shp_list _) (shp_list []) rfl).2

theorem mx_if (l : List Int) (ρ : TV.Env) (i : Nat) (h : ρ[i]? = some (some (.tup (l.map .int)))) : mIf (mB (mOp [.var i pAny, .tmp (mOp [] dTup) pAny] dNe)) (mOp [.var i pAny] dMaxS) (mC .non) ρ = .ok (oD (mxO l), ρ) := by
  have en := ne_nilT l
  cases l with
  | nil =>
    simp only [List.map_nil] at en h
    simp [b_ok, b_stuck, b_exc, a_def, f_ok, f_exc, k_rt, k_nx, a_do, a_set, a_set2, a_drop, a_ret, a_unp, a_seq, k_seq, k_seqr, k_seqb, k_seqc, a_op, k_op, a_c, a_var, a_b, k_b, a_then, k_and1, k_and0, k_or1, k_or0, k_andV1, k_andV0, k_orV1, k_orV0, k_if1, k_if0, k_ifS1, k_ifS0, k_ifT1, k_ifT0, k_notV, k_not, a_yes, a_no, a_next, a_never, a_par, k_par, a_for, k_for, a_i1, k_i1, a_io, k_io, a_call, k_call, a_callP, k_callP, a_chain, k_chain, a_mut, k_mut, a_sto, k_sto, a_lc, k_lc, a_new, a_gN, a_gT, d_lt, d_le, d_gt, d_ge, d_intB, ev, rds, chk, pAny, pTup, pInt, takeA, wbE, permL, padE, outE, gNs, own_int, own_bl, own_str, own_non, own_tup, own_ins, own_frl, own_lst, own_dic, dTup, dLst, dAdd, dSub, dMulS, dDiv, dMod, dNeg, dInt, dAbs, dIsN, dNotN, D.isNon, dLen, dItems, dIx, dTru, D.tru, D.seq, fSetL, fAppend, sizeLine_eq, rg1, rg2, rg3, rg4, rg5, rg6, rg7, rg8, a_raise, k_raise, a_par3, k_par3, a_try, kt_ok, kt_exc, hdl, sEnd, dropN, inR, dRev, a_fz, k_fzL, k_fzF, k_fzT, a_fzS, k_fzS, h, en, mxO, oD]
  | cons n ns =>
    have em := max_tup n ns
    simp only [List.map_cons] at em en h
    simp [b_ok, b_stuck, b_exc, a_def, f_ok, f_exc, k_rt, k_nx, a_do, a_set, a_set2, a_drop, a_ret, a_unp, a_seq, k_seq, k_seqr, k_seqb, k_seqc, a_op, k_op, a_c, a_var, a_b, k_b, a_then, k_and1, k_and0, k_or1, k_or0, k_andV1, k_andV0, k_orV1, k_orV0, k_if1, k_if0, k_ifS1, k_ifS0, k_ifT1, k_ifT0, k_notV, k_not, a_yes, a_no, a_next, a_never, a_par, k_par, a_for, k_for, a_i1, k_i1, a_io, k_io, a_call, k_call, a_callP, k_callP, a_chain, k_chain, a_mut, k_mut, a_sto, k_sto, a_lc, k_lc, a_new, a_gN, a_gT, d_lt, d_le, d_gt, d_ge, d_intB, ev, rds, chk, pAny, pTup, pInt, takeA, wbE, permL, padE, outE, gNs, own_int, own_bl, own_str, own_non, own_tup, own_ins, own_frl, own_lst, own_dic, dTup, dLst, dAdd, dSub, dMulS, dDiv, dMod, dNeg, dInt, dAbs, dIsN, dNotN, D.isNon, dLen, dItems, dIx, dTru, D.tru, D.seq, fSetL, fAppend, sizeLine_eq, rg1, rg2, rg3, rg4, rg5, rg6, rg7, rg8, a_raise, k_raise, a_par3, k_par3, a_try, kt_ok, kt_exc, hdl, sEnd, dropN, inR, dRev, a_fz, k_fzL, k_fzF, k_fzT, a_fzS, k_fzS, h, en, mxO, oD, em]

theorem ev_tt {m n : ME} {x y : D} {ρ ρ1 ρ2 : TV.Env} (h1 : m ρ = .ok (x, ρ1)) (h2 : n ρ1 = .ok (y, ρ2)) : ev [.tmp m pAny, .tmp n pAny] ρ = .ok ([some x, some y], ρ2) := by
  simp [ev, h1, h2, chk, pAny, R.bind]

/-- 1 if the greater child stands behind, or there is none ahead -/
def sidB (s : List Int) (x : Int) : Bool := match kidA s x, kidB s x with
  | none, _ => true
  | some _, none => false
  | some a, some b => decide (a < b)

/-- the greater child stands ahead just if the law's side is 0 -/
theorem ix_inj {s : List Int} (nd : s.Nodup) {i : Nat} (h : i < s.length) : ixOf s[i] s = i := by
  rw [ixOf_eq]
  exact nd.idxOf_getElem i h

theorem cut_ix {s : List Int} (nd : s.Nodup) {i j : Nat} {z : Int} (h : z ∈ cut s i j) : i ≤ ixOf z s ∧ ixOf z s < j := by
  unfold cut at h
  obtain ⟨k, hk, e⟩ := List.mem_iff_getElem.mp h
  rw [List.length_take, List.length_drop] at hk
  rw [List.getElem_take, List.getElem_drop] at e
  have := ix_inj nd (i := i + k) (by omega)
  rw [e] at this
  omega

theorem gc_side {s : List Int} {x c : Int} (nd : s.Nodup) (h : gcO s x = some c) : decide (ixOf c s < ixOf x s) = !sidB s x := by
  unfold gcO kids at h
  have hA : ∀ a, kidA s x = some a → ixOf a s < ixOf x s := fun a e => (cut_ix nd (mxO_spec e).1).2
  have hB : ∀ b, kidB s x = some b → ixOf x s < ixOf b s := fun b e => (cut_ix nd (mxO_spec e).1).1
  unfold sidB
  cases ha : kidA s x with
  | none =>
    cases hb : kidB s x with
    | none => rw [ha, hb] at h; cases h
    | some b =>
      rw [ha, hb] at h
      cases h
      have := hB b hb
      have hn : ¬ ixOf b s < ixOf x s := by omega
      exact decide_eq_false hn
  | some a =>
    have h1 := hA a ha
    cases hb : kidB s x with
    | none =>
      rw [ha, hb] at h
      cases h
      simpa using h1
    | some b =>
      have h2 := hB b hb
      rw [ha, hb] at h
      simp [mxO] at h
      by_cases cc : a < b
      · rw [show max a b = b by omega] at h
        subst h
        simp [cc]; omega
      · rw [show max a b = a by omega] at h
        subst h
        simp [cc]; omega

end K58

namespace K58
open PySem TV
theorem for_of {m : ME} {g : D → TV.Env → R TV.Env} {b : MS} {ρ ρ1 : TV.Env} {ds : List D} (h : m ρ = .ok (.lst ds, ρ1)) : mFor (mI1 m D.seq) g b ρ = forL g b ds ρ1 := by
  rw [a_for, a_i1, h, b_ok, k_i1]
  rfl

theorem e_oneD (a b : Int) (xs : List D) (h : Src a b) (h1 : xs ≠ []) (h2 : xs.length ≤ 1000) (ho : ∀ d ∈ xs, d.own = false) : ∃ a' b' x, Src a' b' ∧ x ∈ xs ∧ F__law_one [some (src a b), some (.lst xs)] = .ok (x, [some (src a' b'), some (.lst xs)]) := by
  have hp : 0 < (xs.length : Int) := by
    cases xs with
    | nil => exact absurd rfl h1
    | cons => simp
  obtain ⟨a', b', t, hs, t1, t2, e⟩ := e_take a b xs.length h hp (by omega)
  obtain ⟨n, rfl⟩ : ∃ n : Nat, t = n := ⟨t.toNat, by omega⟩
  have hn : n < xs.length := by omega
  refine ⟨a', b', xs[n], hs, List.getElem_mem hn, ?_⟩
  unfold F__law_one m__law_one
  simp [b_ok, b_stuck, b_exc, a_def, f_ok, f_exc, k_rt, k_nx, a_do, a_set, a_set2, a_drop, a_ret, a_unp, a_seq, k_seq, k_seqr, k_seqb, k_seqc, a_op, k_op, a_c, a_var, a_b, k_b, a_then, k_and1, k_and0, k_or1, k_or0, k_andV1, k_andV0, k_orV1, k_orV0, k_if1, k_if0, k_ifS1, k_ifS0, k_ifT1, k_ifT0, k_notV, k_not, a_yes, a_no, a_next, a_never, a_par, k_par, a_for, k_for, a_i1, k_i1, a_io, k_io, a_call, k_call, a_callP, k_callP, a_chain, k_chain, a_mut, k_mut, a_sto, k_sto, a_lc, k_lc, a_new, a_gN, a_gT, d_lt, d_le, d_gt, d_ge, d_intB, ev, rds, chk, pAny, pTup, pInt, takeA, wbE, permL, padE, outE, gNs, own_int, own_bl, own_str, own_non, own_tup, own_ins, own_frl, own_lst, own_dic, dTup, dLst, dAdd, dSub, dMulS, dDiv, dMod, dNeg, dInt, dAbs, dIsN, dNotN, D.isNon, dLen, dItems, dIx, dTru, D.tru, D.seq, fSetL, fAppend, sizeLine_eq, rg1, rg2, rg3, rg4, rg5, rg6, rg7, rg8, a_raise, k_raise, a_par3, k_par3, a_try, kt_ok, kt_exc, hdl, sEnd, dropN, inR, dRev, a_fz, k_fzL, k_fzF, k_fzT, a_fzS, k_fzS, e, atI_nat, List.getElem?_eq_getElem, hn]

def mx (s : List Int) : Int := (mxO s).getD 0

def mn (s : List Int) : Int := (mnO s).getD 0

theorem mx_tup {s : List Int} (h : s ≠ []) : dMaxS [.tup (s.map .int)] = some (.int (mx s)) := by
  cases s with
  | nil => exact absurd rfl h
  | cons n ns => exact max_tup n ns

theorem mn_tup {s : List Int} (h : s ≠ []) : dMinS [.tup (s.map .int)] = some (.int (mn s)) := by
  cases s with
  | nil => exact absurd rfl h
  | cons n ns => exact min_tup n ns

theorem mx_lst {s : List Int} (h : s ≠ []) : dMaxS [.lst (s.map .int)] = some (.int (mx s)) := by
  cases s with
  | nil => exact absurd rfl h
  | cons n ns => exact max_lst n ns

theorem mn_lst {s : List Int} (h : s ≠ []) : dMinS [.lst (s.map .int)] = some (.int (mn s)) := by
  cases s with
  | nil => exact absurd rfl h
  | cons n ns => exact min_lst n ns

theorem mx_spec {s : List Int} (h : s ≠ []) : mx s ∈ s ∧ ∀ y ∈ s, y ≤ mx s := by
  cases s with
  | nil => exact absurd rfl h
  | cons n ns => exact mxO_spec (l := n :: ns) rfl

theorem mn_spec {s : List Int} (h : s ≠ []) : mn s ∈ s ∧ ∀ y ∈ s, mn s ≤ y := by
  cases s with
  | nil => exact absurd rfl h
  | cons n ns => exact mnO_spec (l := n :: ns) rfl

theorem okS.ne {s : List Int} (h : okS s) : s ≠ [] := fun e => by
  have := h.2.1
  rw [e] at this
  simp at this

theorem p20 : dPow [.int 10, .int 20] = some (.int 100000000000000000000) := by
  have h : L2.CPow 10 20 := by unfold L2.CPow; decide
  show (if L2.CPow 10 20 then some (D.int (10 ^ (20 : Int).toNat)) else none) = _
  rw [if_pos h]
  rfl

theorem q20 (ρ : TV.Env) : mOp [.tmp (mC (.int 10)) pAny, .tmp (mC (.int 20)) pAny] dPow ρ = .ok (.int 100000000000000000000, ρ) := op_run (ps := [some (.int 10), some (.int 20)]) (ds := [.int 10, .int 20]) rfl rfl p20

theorem p15 : dPow [.int 10, .int 15] = some (.int 1000000000000000) := by
  have h : L2.CPow 10 15 := by unfold L2.CPow; decide
  show (if L2.CPow 10 15 then some (D.int (10 ^ (15 : Int).toNat)) else none) = _
  rw [if_pos h]
  rfl

theorem q15 (ρ : TV.Env) : mOp [.tmp (mC (.int 10)) pAny, .tmp (mC (.int 15)) pAny] dPow ρ = .ok (.int 1000000000000000, ρ) := op_run (ps := [some (.int 10), some (.int 15)]) (ds := [.int 10, .int 15]) rfl rfl p15

theorem okR_some : okR (some [2, 5, 40]) := fun l e => by cases e; exact ⟨by decide, by decide⟩

theorem okR_nil : okR (some []) := fun l e => by cases e; exact ⟨by simp, by simp⟩

theorem okR_none : okR none := fun l e => by cases e

theorem dn_spec {s : List Int} {x : Int} : ∀ i, (∀ k, dn s x i ≤ k → k < i → s.getD k 0 < x) ∧ (0 < dn s x i → ¬ s.getD (dn s x i - 1) 0 < x)
  | 0 => ⟨fun k _ h => absurd h (Nat.not_lt_zero _), fun h => absurd h (Nat.lt_irrefl 0)⟩
  | i + 1 => by
    have ih := dn_spec (s := s) (x := x) i
    unfold dn
    split
    · rename_i c
      refine ⟨fun k h1 h2 => ?_, ih.2⟩
      rcases Nat.lt_or_ge k i with h | h
      · exact ih.1 k h1 h
      · obtain rfl : k = i := by omega
        exact c
    · rename_i c
      exact ⟨fun k h1 h2 => absurd h2 (by omega), fun _ => by simpa using c⟩

theorem up_spec {s : List Int} {x : Int} : ∀ n i, i < s.length → s.length ≤ i + n + 1 → (∀ k, i < k → k ≤ up s x n i → s.getD k 0 < x) ∧ (up s x n i + 1 < s.length → ¬ s.getD (up s x n i + 1) 0 < x)
  | 0, i, h1, h2 => by
    unfold up
    exact ⟨fun k h3 h4 => absurd h3 (by omega), fun h => absurd h (by omega)⟩
  | n + 1, i, h1, h2 => by
    unfold up
    split
    · rename_i c
      have ih := up_spec (s := s) (x := x) n (i + 1) c.1 (by omega)
      refine ⟨fun k h3 h4 => ?_, ih.2⟩
      rcases Nat.lt_or_ge (i + 1) k with h | h
      · exact ih.1 k h h4
      · obtain rfl : k = i + 1 := by omega
        exact c.2
    · rename_i c
      exact ⟨fun k h3 h4 => absurd h3 (by omega), fun h z => c ⟨h, z⟩⟩

theorem ixOf_get {x : Int} : ∀ {s : List Int}, x ∈ s → s[ixOf x s]? = some x
  | [], h => nomatch h
  | y :: ys, h => by
    unfold ixOf
    split
    · rename_i c; simp [c]
    · rename_i c
      rcases List.mem_cons.mp h with e | h
      · exact absurd e.symm c
      · simpa using ixOf_get h

theorem ix_at {s : List Int} {x : Int} (hx : x ∈ s) : s.getD (ixOf x s) 0 = x := by
  rw [List.getD_eq_getElem?_getD, ixOf_get hx]
  rfl

theorem ix_first {s : List Int} {x : Int} {k : Nat} (h : k < ixOf x s) : s.getD k 0 ≠ x := by
  induction s generalizing k with
  | nil => exact absurd h (Nat.not_lt_zero _)
  | cons y ys ih =>
    unfold ixOf at h
    split at h
    · exact absurd h (Nat.not_lt_zero _)
    · rename_i c
      cases k with
      | zero => simpa using c
      | succ k => exact ih (k := k) (by omega)

def held (s : List Int) (e : Int) (r : Option (List Int)) : List Int := (heads s e).filter fun x => !letsB r (len s x)

/-- to the left: no greater stone before it -/
theorem lo_zero {s : List Int} {x : Int} (hx : x ∈ s) : lo s x = 0 ↔ ∀ y ∈ s.take (ixOf x s), ¬ y > x := by
  have sp := dn_spec (s := s) (x := x) (ixOf x s)
  have hi0 := ixOf_lt hx
  have hle := dn_le (s := s) (x := x) (ixOf x s)
  constructor
  · intro h y hy
    obtain ⟨k, hk, rfl⟩ := List.getElem_of_mem hy
    rw [List.length_take] at hk
    have := sp.1 k (by unfold lo at h; omega) (by omega)
    rw [List.getElem_take]
    rw [List.getD_eq_getElem?_getD, List.getElem?_eq_getElem (by omega)] at this
    simp at this
    omega
  · intro h
    unfold lo
    rcases Nat.eq_zero_or_pos (dn s x (ixOf x s)) with z | z
    · exact z
    · exfalso
      have h1 := sp.2 z
      have h2 := ix_first (s := s) (x := x) (k := dn s x (ixOf x s) - 1) (by omega)
      have h3 := h (s.getD (dn s x (ixOf x s) - 1) 0) (by
        rw [List.getD_eq_getElem?_getD, List.getElem?_eq_getElem (by omega)]
        exact List.mem_take_iff_getElem.mpr ⟨_, by omega, rfl⟩)
      omega

theorem ix_after {s : List Int} {x : Int} (nd : s.Nodup) {k : Nat} (h : ixOf x s < k) (hk : k < s.length) : s.getD k 0 ≠ x := fun z => by
  have := ix_inj nd hk
  rw [List.getD_eq_getElem?_getD, List.getElem?_eq_getElem hk] at z
  simp at z
  rw [z] at this
  omega

theorem hi_end {s : List Int} {x : Int} (nd : s.Nodup) (hx : x ∈ s) : ¬ hi s x + 1 < s.length ↔ ∀ y ∈ s.drop (ixOf x s + 1), ¬ y > x := by
  have hi0 := ixOf_lt hx
  have sp := up_spec (s := s) (x := x) s.length (ixOf x s) hi0 (by omega)
  have hge := ix_le_hi s x
  have hlt := hi_lt hx
  constructor
  · intro h y hy
    obtain ⟨k, hk, rfl⟩ := List.getElem_of_mem hy
    rw [List.length_drop] at hk
    rw [List.getElem_drop]
    have := sp.1 (ixOf x s + 1 + k) (by omega) (by unfold hi at h hlt; omega)
    rw [List.getD_eq_getElem?_getD, List.getElem?_eq_getElem (by omega)] at this
    simp at this
    omega
  · intro h c
    have h1 := sp.2 c
    have h2 := ix_after (s := s) (x := x) nd (k := hi s x + 1) (by omega) c
    have h3 := h (s.getD (hi s x + 1) 0) (by
      rw [List.getD_eq_getElem?_getD, List.getElem?_eq_getElem c]
      exact List.mem_drop_iff_getElem.mpr ⟨hi s x - ixOf x s, by omega, by simp; congr 1; omega⟩)
    unfold hi at h2 h3
    omega

/-- the run of stones not greater, to the left and to the right -/
theorem run_left {s : List Int} {x : Int} : ∀ i, i ≤ s.length → (∀ k, k < i → s.getD k 0 ≠ x) → (((s.take i).reverse).takeWhile fun y => decide (y ≤ x)).length = i - dn s x i
  | 0, _, _ => by simp [dn]
  | i + 1, h, hn => by
    have ih := run_left (s := s) (x := x) i (by omega) fun k hk => hn k (by omega)
    have hd := dn_le (s := s) (x := x) i
    have h0 : i < s.length := by omega
    have e : (s.take (i + 1)).reverse = s[i] :: (s.take i).reverse := by
      rw [List.take_add_one, List.getElem?_eq_getElem h0, List.reverse_append]
      rfl
    have n0 := hn i (by omega)
    rw [List.getD_eq_getElem?_getD, List.getElem?_eq_getElem h0] at n0
    have n0 : s[i] ≠ x := n0
    have dd : dn s x (i + 1) = if s[i] < x then dn s x i else i + 1 := by
      show (if s.getD i 0 < x then dn s x i else i + 1) = _
      rw [List.getD_eq_getElem?_getD, List.getElem?_eq_getElem h0]
      rfl
    rw [e, List.takeWhile_cons, dd]
    by_cases c : s[i] < x
    · rw [if_pos (by simp; omega), if_pos c, List.length_cons, ih]
      omega
    · rw [if_neg (by simp; omega), if_neg c]
      simp

theorem run_right {s : List Int} {x : Int} : ∀ n i, i < s.length → s.length ≤ i + n + 1 → (∀ k, i < k → k < s.length → s.getD k 0 ≠ x) → ((s.drop (i + 1)).takeWhile fun y => decide (y ≤ x)).length = up s x n i - i
  | 0, i, h, h2, hn => by
    rw [List.drop_eq_nil_of_le (by omega)]
    simp [up]
  | n + 1, i, h, h2, hn => by
    by_cases c : i + 1 < s.length
    · have ih := run_right (s := s) (x := x) n (i + 1) c (by omega) fun k h3 h4 => hn k (by omega) h4
      have hu := up_ge (s := s) (x := x) n (i + 1)
      have n0 := hn (i + 1) (by omega) c
      rw [List.getD_eq_getElem?_getD, List.getElem?_eq_getElem c] at n0
      have n0 : s[i + 1] ≠ x := n0
      have uu : up s x (n + 1) i = if s[i + 1] < x then up s x n (i + 1) else i := by
        show (if i + 1 < s.length ∧ s.getD (i + 1) 0 < x then up s x n (i + 1) else i) = _
        rw [List.getD_eq_getElem?_getD, List.getElem?_eq_getElem c]
        simp [c]
      rw [List.drop_eq_getElem_cons c, List.takeWhile_cons, uu]
      by_cases c1 : s[i + 1] < x
      · rw [if_pos (by simp; omega), if_pos c1, List.length_cons, ih]
        omega
      · rw [if_neg (by simp; omega), if_neg c1]
        simp
    · unfold up
      rw [List.drop_eq_nil_of_le (by omega)]
      simp [c]

theorem take_01 (s : List Int) (i : Nat) (hi : i ≤ s.length) : dSl01 [.tup (s.map .int), .int i] = some (.tup ((s.take i).map .int)) := by
  have e2 : HT.sIx (s.map D.int).length (s.map D.int).length (some (i : Int)) = i := by rw [HT.sIx_nat, List.length_map]; omega
  have e1 : HT.sIx (s.map D.int).length 0 none = 0 := rfl
  simp only [dSl01, dCut, cutD, e1, e2, List.map_take, List.drop_zero, Nat.sub_zero]

theorem drop_10 (s : List Int) (i : Nat) (hi : i < s.length) : dSl10 [.tup (s.map .int), .int ((i : Int) + 1)] = some (.tup ((s.drop (i + 1)).map .int)) := by
  have e1 : HT.sIx (s.map D.int).length 0 (some ((i : Int) + 1)) = i + 1 := by
    have := HT.sIx_nat (s.map D.int).length 0 (i + 1)
    rw [List.length_map] at this ⊢
    rw [show ((i : Int) + 1) = ((i + 1 : Nat) : Int) by simp, this]
    omega
  have e2 : HT.sIx (s.map D.int).length (s.map D.int).length none = s.length := by rw [List.length_map]; rfl
  simp only [dSl10, dCut, cutD, e1, e2, List.map_drop]
  congr 2
  exact List.take_of_length_le (by simp)

theorem rev_tup (s : List Int) : dRev [.tup (s.map .int)] = some (.tup (s.reverse.map .int)) := by
  simp [dRev]

theorem eq_filt (l : List Int) (p : Int → Bool) : dEq [.lst ((l.filter p).map .int), .lst []] = some (.bl (!l.any p)) := by
  rw [eq_nil]
  congr 2
  cases h : l.any p with
  | true =>
    obtain ⟨y, hy, hp⟩ := List.any_eq_true.mp h
    have : y ∈ l.filter p := List.mem_filter.mpr ⟨hy, hp⟩
    cases hh : l.filter p with
    | nil => rw [hh] at this; cases this
    | cons a b => rfl
  | false =>
    have : l.filter p = [] := List.filter_eq_nil_iff.mpr fun y hy hp => by
      have := List.any_eq_true.mpr ⟨y, hy, hp⟩
      rw [h] at this
      cases this
    rw [this]
    rfl

theorem nice_str (n : Nat) (x : Str) (h : (PyData.str x).canLay0 = true) : D.nice n (.str x) = true := by cases n <;> exact h

theorem nice_int (n : Nat) (x : Int) : D.nice n (.int x) = true := by cases n <;> rfl

theorem in_intsL (e : Int) (as : List Int) : dInA false [.int e, .lst (as.map .int)] = some (.bl (decide (e ∈ as))) := by
  have := in_ints e as
  simpa [dInA, dInF, dItems] using this

theorem dTupOf_lst (l : List D) : dTupOf [.lst l] = some (.tup l) := rfl

theorem dTupOf_frl (l : List D) : dTupOf [.frl l] = some (.tup l) := rfl

theorem s_True : (PyData.str "True").canLay0 = true := by decide +kernel

theorem s_False : (PyData.str "False").canLay0 = true := by decide +kernel

theorem ne_rep (b : Bool) : dNe [.str (if b = true then "True" else "False"), .str (if b = true then "True" else "False")] = some (.bl false) := by
  cases b
  · exact d_neS (nice_str _ _ s_False)
  · exact d_neS (nice_str _ _ s_True)

theorem ne_tupI (l : List Int) : dNe [.tup (l.map .int), .tup (l.map .int)] = some (.bl false) := d_neS (nices_ints (n := 7) l)

theorem eq_tupI (l : List Int) : dEq [.tup (l.map .int), .tup (l.map .int)] = some (.bl true) := d_eqS (nices_ints (n := 7) l)

theorem e_Row2 (s : List Int) (e : Int) (h : okS s) (h1 : 0 ≤ e) (h2 : e ≤ 3) : fMake 0 4 ms_Row l_Row [.non] [0, 1, 2] [.tup (s.map .int), .int e] = some (rowD s e .non) := by
  have e1 : fMake 0 4 ms_Row l_Row [.non] [0, 1, 2] [.tup (s.map .int), .int e] = fMake 0 4 ms_Row l_Row [] [0, 1, 2] [.tup (s.map .int), .int e, .non] := rfl
  rw [e1]
  exact e_Row s e none h h1 h2 fun l e => by cases e

theorem e_Row1 (s : List Int) (h : okS s) : fMake 0 4 ms_Row l_Row [.int 0, .non] [0, 1, 2] [.tup (s.map .int)] = some (rowD s 0 .non) := by
  have e1 : fMake 0 4 ms_Row l_Row [.int 0, .non] [0, 1, 2] [.tup (s.map .int)] = fMake 0 4 ms_Row l_Row [] [0, 1, 2] [.tup (s.map .int), .int 0, .non] := rfl
  rw [e1]
  exact e_Row s 0 none h (by decide) (by decide) fun l e => by cases e

theorem lst_filter_ints (l : List Int) (b : D → Bool) (p : Int → Bool) (h : ∀ x, b (.int x) = p x) : ((l.map D.int).filter b).map id = (l.filter p).map D.int := by
  rw [List.map_id, List.filter_map]
  congr 1
  exact List.filter_congr fun x _ => h x

end K58

namespace K58
open PySem TV
/-- the stretch round a place, by the stones alone -/
def SpA (f : Nat → Int) (p i : Nat) : Prop := i ≤ p ∧ (∀ k, i ≤ k → k < p → f k < f p) ∧ (0 < i → f p < f (i - 1))

def SpB (f : Nat → Int) (n p j : Nat) : Prop := p ≤ j ∧ j < n ∧ (∀ k, p < k → k ≤ j → f k < f p) ∧ (j + 1 < n → f p < f (j + 1))

theorem SpA.uniq {f : Nat → Int} {p i j : Nat} (a : SpA f p i) (b : SpA f p j) : i = j := by
  obtain ⟨a1, a2, a3⟩ := a
  obtain ⟨b1, b2, b3⟩ := b
  rcases Nat.lt_trichotomy i j with h | h | h
  · exfalso
    have h1 := b3 (by omega)
    have h2 := a2 (j - 1) (by omega) (by omega)
    omega
  · exact h
  · exfalso
    have h1 := a3 (by omega)
    have h2 := b2 (i - 1) (by omega) (by omega)
    omega

theorem SpB.uniq {f : Nat → Int} {n p i j : Nat} (a : SpB f n p i) (b : SpB f n p j) : i = j := by
  obtain ⟨a1, a0, a2, a3⟩ := a
  obtain ⟨b1, b0, b2, b3⟩ := b
  rcases Nat.lt_trichotomy i j with h | h | h
  · exfalso
    have h1 := a3 (by omega)
    have h2 := b2 (i + 1) (by omega) (by omega)
    omega
  · exact h
  · exfalso
    have h1 := b3 (by omega)
    have h2 := a2 (j + 1) (by omega) (by omega)
    omega

def mir (f : Nat → Int) (L R k : Nat) : Int := if L ≤ k ∧ k ≤ R then f (L + R - k) else f k

theorem mir_in {f : Nat → Int} {L R k : Nat} (h1 : L ≤ k) (h2 : k ≤ R) : mir f L R k = f (L + R - k) := if_pos ⟨h1, h2⟩

theorem mir_out {f : Nat → Int} {L R k : Nat} (h : k < L ∨ R < k) : mir f L R k = f k := if_neg fun z => by omega
section
variable {f : Nat → Int} {n p L R q i j : Nat}

/-- the turned stone's own stretch -/
theorem mir_self (A : SpA f p L) (B : SpB f n p R) : SpA (mir f L R) (L + R - p) L ∧ SpB (mir f L R) n (L + R - p) R := by
  obtain ⟨a1, a2, a3⟩ := A
  obtain ⟨b1, b0, b2, b3⟩ := B
  have e : mir f L R (L + R - p) = f p := by rw [mir_in (by omega) (by omega)]; congr 1; omega
  refine ⟨⟨by omega, fun k h1 h2 => ?_, fun h => ?_⟩, by omega, b0, fun k h1 h2 => ?_, fun h => ?_⟩
  · rw [e, mir_in h1 (by omega)]
    exact b2 _ (by omega) (by omega)
  · rw [e, mir_out (.inl (by omega))]
    exact a3 h
  · rw [e, mir_in (by omega) h2]
    exact a2 _ (by omega) (by omega)
  · rw [e, mir_out (.inr (by omega))]
    exact b3 h

/-- a stretch within -/
theorem mir_within (A : SpA f p L) (B : SpB f n p R) (hL : L ≤ q) (hR : q ≤ R) (hq : q ≠ p) (a : SpA f q i) (b : SpB f n q j) : (L ≤ i ∧ j ≤ R) ∧ SpA (mir f L R) (L + R - q) (L + R - j) ∧ SpB (mir f L R) n (L + R - q) (L + R - i) := by
  obtain ⟨a1, a2, a3⟩ := A
  obtain ⟨b1, b0, b2, b3⟩ := B
  obtain ⟨c1, c2, c3⟩ := a
  obtain ⟨d1, d0, d2, d3⟩ := b
  have qp : f q < f p := by
    rcases Nat.lt_or_gt_of_ne hq with h | h
    · exact a2 q hL h
    · exact b2 q h hR
  have hi : L ≤ i := Classical.byContradiction fun w => by
    have h1 := c2 (L - 1) (by omega) (by omega)
    have h2 := a3 (by omega)
    omega
  have hj : j ≤ R := Classical.byContradiction fun w => by
    have h1 := d2 (R + 1) (by omega) (by omega)
    have h2 := b3 (by omega)
    omega
  have e : mir f L R (L + R - q) = f q := by rw [mir_in (by omega) (by omega)]; congr 1; omega
  refine ⟨⟨hi, hj⟩, ⟨by omega, fun k h1 h2 => ?_, fun h => ?_⟩, by omega, by omega, fun k h1 h2 => ?_, fun h => ?_⟩
  · rw [e, mir_in (by omega) (by omega)]
    exact d2 _ (by omega) (by omega)
  · rw [e]
    by_cases c : j < R
    · rw [mir_in (by omega) (by omega)]
      have := d3 (by omega)
      rw [show L + R - (L + R - j - 1) = j + 1 by omega]
      exact this
    · rw [mir_out (.inl (by omega)), show L + R - j - 1 = L - 1 by omega]
      have := a3 (by omega)
      omega
  · rw [e, mir_in (by omega) (by omega)]
    exact c2 _ (by omega) (by omega)
  · rw [e]
    by_cases c : L < i
    · rw [mir_in (by omega) (by omega)]
      have := c3 (by omega)
      rw [show L + R - (L + R - i + 1) = i - 1 by omega]
      exact this
    · rw [mir_out (.inr (by omega)), show L + R - i + 1 = R + 1 by omega]
      have := b3 (by omega)
      omega

/-- a stretch that is none within: it holds all, or nothing -/
theorem mir_apart (A : SpA f p L) (B : SpB f n p R) (hq : q < L ∨ R < q) (a : SpA f q i) (b : SpB f n q j) : SpA (mir f L R) q i ∧ SpB (mir f L R) n q j := by
  obtain ⟨a1, a2, a3⟩ := A
  obtain ⟨b1, b0, b2, b3⟩ := B
  obtain ⟨c1, c2, c3⟩ := a
  obtain ⟨d1, d0, d2, d3⟩ := b
  have le : ∀ k, L ≤ k → k ≤ R → f k ≤ f p := fun k h1 h2 => by
    rcases Nat.lt_trichotomy k p with h | h | h
    · exact Int.le_of_lt (a2 k h1 h)
    · rw [h]; exact Int.le_refl _
    · exact Int.le_of_lt (b2 k h h2)
  have e : mir f L R q = f q := mir_out hq
  rcases hq with hq | hq
  · have bd : 0 < L := by omega
    have hb := a3 bd
    have far : L ≤ j → f p < f q := fun h => by
      rcases Nat.lt_or_ge q (L - 1) with z | z
      · have := d2 (L - 1) z (by omega); omega
      · obtain rfl : q = L - 1 := by omega
        exact hb
    refine ⟨⟨c1, fun k h1 h2 => ?_, fun h => ?_⟩, d1, d0, fun k h1 h2 => ?_, fun h => ?_⟩
    · rw [e, mir_out (.inl (by omega))]; exact c2 k h1 h2
    · rw [e, mir_out (.inl (by omega))]; exact c3 h
    · rw [e]
      by_cases c : L ≤ k ∧ k ≤ R
      · rw [mir_in c.1 c.2]
        have := far (by omega)
        have := le (L + R - k) (by omega) (by omega)
        omega
      · rw [mir_out (by omega)]; exact d2 k h1 h2
    · rw [e]
      have z := d3 h
      by_cases c : L ≤ j + 1 ∧ j + 1 ≤ R
      · exfalso
        by_cases c2 : L ≤ j
        · have := far c2
          have := le (j + 1) c.1 c.2
          omega
        · obtain rfl : L = j + 1 := by omega
          have := le (j + 1) c.1 c.2
          rcases Nat.lt_or_ge q j with w | w
          · have := d2 j w (Nat.le_refl _)
            rw [show j + 1 - 1 = j by omega] at hb
            omega
          · obtain rfl : q = j := by omega
            rw [show q + 1 - 1 = q by omega] at hb
            omega
      · rw [mir_out (by omega)]; exact z
  · have hb : f p < f (R + 1) := b3 (by omega)
    have far : i ≤ R → f p < f q := fun h => by
      rcases Nat.lt_or_ge (R + 1) q with z | z
      · have := c2 (R + 1) (by omega) z; omega
      · obtain rfl : q = R + 1 := by omega
        exact hb
    refine ⟨⟨c1, fun k h1 h2 => ?_, fun h => ?_⟩, d1, d0, fun k h1 h2 => ?_, fun h => ?_⟩
    · rw [e]
      by_cases c : L ≤ k ∧ k ≤ R
      · rw [mir_in c.1 c.2]
        have := far (by omega)
        have := le (L + R - k) (by omega) (by omega)
        omega
      · rw [mir_out (by omega)]; exact c2 k h1 h2
    · rw [e]
      have z := c3 h
      by_cases c : L ≤ i - 1 ∧ i - 1 ≤ R
      · exfalso
        by_cases c4 : i ≤ R
        · have := far c4
          have := le (i - 1) c.1 c.2
          omega
        · obtain rfl : i = R + 1 := by omega
          have := le (R + 1 - 1) c.1 c.2
          rcases Nat.lt_or_ge (R + 1) q with w | w
          · have := c2 (R + 1) (Nat.le_refl _) w
            omega
          · obtain rfl : q = R + 1 := by omega
            omega
      · rw [mir_out (by omega)]; exact z
    · rw [e, mir_out (.inr (by omega))]; exact d2 k h1 h2
    · rw [e, mir_out (.inr (by omega))]; exact d3 h
end

theorem sp_lo {s : List Int} {x : Int} (nd : s.Nodup) (hx : x ∈ s) : SpA (s.getD · 0) (ixOf x s) (lo s x) := by
  have sp := dn_spec (s := s) (x := x) (ixOf x s)
  have e := ix_at hx
  refine ⟨lo_le_ix s x, fun k h1 h2 => ?_, fun h => ?_⟩
  · show s.getD k 0 < s.getD (ixOf x s) 0
    rw [e]; exact sp.1 k h1 h2
  · show s.getD (ixOf x s) 0 < s.getD (lo s x - 1) 0
    rw [e]
    have h1 := sp.2 h
    have h3 := lo_le_ix s x
    have h2 := ix_first (s := s) (x := x) (k := lo s x - 1) (by omega)
    unfold lo at *
    omega

theorem sp_hi {s : List Int} {x : Int} (nd : s.Nodup) (hx : x ∈ s) : SpB (s.getD · 0) s.length (ixOf x s) (hi s x) := by
  have hi0 := ixOf_lt hx
  have sp := up_spec (s := s) (x := x) s.length (ixOf x s) hi0 (by omega)
  have e := ix_at hx
  have hge := ix_le_hi s x
  refine ⟨hge, hi_lt hx, fun k h1 h2 => ?_, fun h => ?_⟩
  · show s.getD k 0 < s.getD (ixOf x s) 0
    rw [e]; exact sp.1 k h1 h2
  · show s.getD (ixOf x s) 0 < s.getD (hi s x + 1) 0
    rw [e]
    have h1 := sp.2 h
    have h2 := ix_after (s := s) (x := x) nd (k := hi s x + 1) (by omega) h
    unfold hi at *
    omega

theorem lo_of {s : List Int} {x : Int} {p i : Nat} (nd : s.Nodup) (hp : p < s.length) (e : s.getD p 0 = x) (a : SpA (s.getD · 0) p i) : lo s x = i := by
  rw [List.getD_eq_getElem?_getD, List.getElem?_eq_getElem hp] at e
  have e : s[p] = x := e
  have hx : x ∈ s := e ▸ List.getElem_mem hp
  have ip : ixOf x s = p := by rw [← e]; exact ix_inj nd hp
  have := sp_lo nd hx
  rw [ip] at this
  exact this.uniq a

theorem hi_of {s : List Int} {x : Int} {p i : Nat} (nd : s.Nodup) (hp : p < s.length) (e : s.getD p 0 = x) (a : SpB (s.getD · 0) s.length p i) : hi s x = i := by
  rw [List.getD_eq_getElem?_getD, List.getElem?_eq_getElem hp] at e
  have e : s[p] = x := e
  have hx : x ∈ s := e ▸ List.getElem_mem hp
  have ip : ixOf x s = p := by rw [← e]; exact ix_inj nd hp
  have := sp_hi nd hx
  rw [ip] at this
  exact this.uniq a

/-- the row with the stretch from i to j turned about -/
def rev (s : List Int) (i j : Nat) : List Int := s.take i ++ (cut s i (j + 1)).reverse ++ s.drop (j + 1)

def turn (s : List Int) (x : Int) : List Int := rev s (lo s x) (hi s x)

theorem cut_get {s : List Int} {i j k : Nat} (h : k < j - i) (hj : j ≤ s.length) : (cut s i j)[k]? = s[i + k]? := by
  unfold cut
  rw [List.getElem?_take_of_lt h, List.getElem?_drop]

theorem rev_len {s : List Int} {i j : Nat} (h1 : i ≤ j) (h2 : j < s.length) : (rev s i j).length = s.length := by
  unfold rev
  rw [List.length_append, List.length_append, List.length_reverse, cut_len s i (j + 1) (by omega) (by omega), List.length_take, List.length_drop]
  omega

theorem rev_get {s : List Int} {i j : Nat} (h1 : i ≤ j) (h2 : j < s.length) (k : Nat) : (rev s i j).getD k 0 = mir (s.getD · 0) i j k := by
  have cl := cut_len s i (j + 1) (by omega) (by omega)
  have tl : (s.take i).length = i := by rw [List.length_take]; omega
  simp only [List.getD_eq_getElem?_getD]
  unfold rev mir
  by_cases c1 : k < i
  · rw [if_neg (by omega), List.append_assoc, List.getElem?_append_left (by omega), List.getElem?_take_of_lt c1]
  · by_cases c2 : k ≤ j
    · rw [if_pos ⟨by omega, c2⟩, List.append_assoc, List.getElem?_append_right (by omega), List.getElem?_append_left (by rw [List.length_reverse]; omega), List.getElem?_reverse (by omega), cut_get (by omega) (by omega)]
      congr 2
      omega
    · rw [if_neg (by omega), List.getElem?_append_right (by rw [List.length_append, List.length_reverse]; omega), List.getElem?_drop]
      congr 2
      rw [List.length_append, List.length_reverse]
      omega

theorem rev_perm {s : List Int} {i j : Nat} (h1 : i ≤ j) (h2 : j < s.length) : (rev s i j).Perm s := by
  unfold rev cut
  have e : s = s.take i ++ (s.drop i).take (j + 1 - i) ++ s.drop (j + 1) := by
    rw [List.append_assoc]
    conv => lhs; rw [← List.take_append_drop i s]
    congr 1
    conv => lhs; rw [← List.take_append_drop (j + 1 - i) (s.drop i)]
    congr 1
    rw [List.drop_drop]
    congr 1
    omega
  conv => rhs; rw [e]
  exact ((List.reverse_perm _).append_left _).append_right _

theorem turn_perm {s : List Int} {x : Int} (hx : x ∈ s) : (turn s x).Perm s := rev_perm lo_hi (hi_lt hx)

theorem turn_len {s : List Int} {x : Int} (hx : x ∈ s) : (turn s x).length = s.length := (turn_perm hx).length_eq

theorem turn_mem {s : List Int} {x y : Int} (hx : x ∈ s) : y ∈ turn s x ↔ y ∈ s := (turn_perm hx).mem_iff

theorem turn_nd {s : List Int} {x : Int} (hx : x ∈ s) (nd : s.Nodup) : (turn s x).Nodup := (turn_perm hx).nodup_iff.mpr nd

theorem turn_get {s : List Int} {x : Int} (hx : x ∈ s) (k : Nat) : (turn s x).getD k 0 = mir (s.getD · 0) (lo s x) (hi s x) k := rev_get lo_hi (hi_lt hx) k

theorem turn_okS {s : List Int} {x : Int} (hx : x ∈ s) (h : okS s) : okS (turn s x) := by
  obtain ⟨a, b, c, d⟩ := h
  refine ⟨turn_nd hx a, by rw [turn_len hx]; exact b, by rw [turn_len hx]; exact c, fun y hy => d y ((turn_mem hx).mp hy)⟩

theorem turn_fun {s : List Int} {x : Int} (hx : x ∈ s) : ((turn s x).getD · 0) = mir (s.getD · 0) (lo s x) (hi s x) := funext fun k => turn_get hx k

/-- y's lot after x's lot was turned -/
theorem turn_self {s : List Int} {x : Int} (nd : s.Nodup) (hx : x ∈ s) : lo (turn s x) x = lo s x ∧ hi (turn s x) x = hi s x ∧ ixOf x (turn s x) = lo s x + hi s x - ixOf x s := by
  obtain ⟨a, b⟩ := mir_self (sp_lo nd hx) (sp_hi nd hx)
  have h1 := lo_le_ix s x
  have h2 := ix_le_hi s x
  have h3 := hi_lt hx
  have nt := turn_nd hx nd
  have hp : lo s x + hi s x - ixOf x s < (turn s x).length := by rw [turn_len hx]; omega
  have e : (turn s x).getD (lo s x + hi s x - ixOf x s) 0 = x := by
    rw [turn_get hx, mir_in (by omega) (by omega)]
    show s.getD _ 0 = x
    rw [show lo s x + hi s x - (lo s x + hi s x - ixOf x s) = ixOf x s by omega]
    exact ix_at hx
  rw [← turn_fun hx] at a b
  rw [← turn_len hx] at b
  refine ⟨lo_of nt hp e a, hi_of nt hp e b, ?_⟩
  rw [List.getD_eq_getElem?_getD, List.getElem?_eq_getElem hp] at e
  have e : (turn s x)[lo s x + hi s x - ixOf x s] = x := e
  have := ix_inj nt hp
  rwa [e] at this

theorem turn_in {s : List Int} {x y : Int} (nd : s.Nodup) (hx : x ∈ s) (hy : y ∈ s) (hn : y ≠ x) (h1 : lo s x ≤ ixOf y s) (h2 : ixOf y s ≤ hi s x) :
    (lo s x ≤ lo s y ∧ hi s y ≤ hi s x) ∧ lo (turn s x) y = lo s x + hi s x - hi s y ∧ hi (turn s x) y = lo s x + hi s x - lo s y ∧ ixOf y (turn s x) = lo s x + hi s x - ixOf y s := by
  have hq : ixOf y s ≠ ixOf x s := fun z => hn (by rw [← ix_at hy, ← ix_at hx, z])
  obtain ⟨w, a, b⟩ := mir_within (sp_lo nd hx) (sp_hi nd hx) h1 h2 hq (sp_lo nd hy) (sp_hi nd hy)
  have h3 := hi_lt hx
  have nt := turn_nd hx nd
  have hp : lo s x + hi s x - ixOf y s < (turn s x).length := by rw [turn_len hx]; omega
  have e : (turn s x).getD (lo s x + hi s x - ixOf y s) 0 = y := by
    rw [turn_get hx, mir_in (by omega) (by omega)]
    show s.getD _ 0 = y
    rw [show lo s x + hi s x - (lo s x + hi s x - ixOf y s) = ixOf y s by omega]
    exact ix_at hy
  rw [← turn_fun hx] at a b
  rw [← turn_len hx] at b
  refine ⟨w, lo_of nt hp e a, hi_of nt hp e b, ?_⟩
  rw [List.getD_eq_getElem?_getD, List.getElem?_eq_getElem hp] at e
  have e : (turn s x)[lo s x + hi s x - ixOf y s] = y := e
  have := ix_inj nt hp
  rwa [e] at this

theorem turn_out {s : List Int} {x y : Int} (nd : s.Nodup) (hx : x ∈ s) (hy : y ∈ s) (h : ixOf y s < lo s x ∨ hi s x < ixOf y s) :
    lo (turn s x) y = lo s y ∧ hi (turn s x) y = hi s y ∧ ixOf y (turn s x) = ixOf y s := by
  obtain ⟨a, b⟩ := mir_apart (sp_lo nd hx) (sp_hi nd hx) h (sp_lo nd hy) (sp_hi nd hy)
  have nt := turn_nd hx nd
  have hp : ixOf y s < (turn s x).length := by rw [turn_len hx]; exact ixOf_lt hy
  have e : (turn s x).getD (ixOf y s) 0 = y := by
    rw [turn_get hx, mir_out h]
    exact ix_at hy
  rw [← turn_fun hx] at a b
  rw [← turn_len hx] at b
  refine ⟨lo_of nt hp e a, hi_of nt hp e b, ?_⟩
  rw [List.getD_eq_getElem?_getD, List.getElem?_eq_getElem hp] at e
  have e : (turn s x)[ixOf y s] = y := e
  have := ix_inj nt hp
  rwa [e] at this

theorem turn_lenL {s : List Int} {x y : Int} (nd : s.Nodup) (hx : x ∈ s) (hy : y ∈ s) : len (turn s x) y = len s y := by
  have h1 := lo_hi (s := s) (x := y)
  by_cases c : ixOf y s < lo s x ∨ hi s x < ixOf y s
  · obtain ⟨a, b, _⟩ := turn_out nd hx hy c
    unfold len
    rw [a, b]
  · by_cases e : y = x
    · subst e
      obtain ⟨a, b, _⟩ := turn_self nd hx
      unfold len
      rw [a, b]
    · obtain ⟨⟨w1, w2⟩, a, b, _⟩ := turn_in nd hx hy e (by omega) (by omega)
      unfold len
      rw [a, b]
      omega

theorem turn_flag {s : List Int} {e x y : Int} (nd : s.Nodup) (hx : x ∈ s) (hy : y ∈ s) (hf : flag s e x = false) : flag (turn s x) e y = flag s e y := by
  have hl := turn_len hx
  by_cases c : ixOf y s < lo s x ∨ hi s x < ixOf y s
  · obtain ⟨a, b, _⟩ := turn_out nd hx hy c
    unfold flag opB
    rw [a, b, hl]
  · by_cases n : y = x
    · subst n
      obtain ⟨a, b, _⟩ := turn_self nd hx
      unfold flag opB
      rw [a, b, hl]
    · obtain ⟨⟨w1, w2⟩, a, b, _⟩ := turn_in nd hx hy n (by omega) (by omega)
      have h3 := hi_lt hx
      have h4 := lo_hi (s := s) (x := y)
      unfold flag opA opB at hf ⊢
      rw [a, b, hl]
      simp only [Bool.or_eq_false_iff, decide_eq_false_iff_not] at hf
      rw [Bool.eq_iff_iff]
      simp only [Bool.or_eq_true, decide_eq_true_eq]
      omega

theorem turn_head {s : List Int} {e x y : Int} (nd : s.Nodup) (hx : x ∈ s) (hy : y ∈ s) (hf : flag s e x = false) : head (turn s x) e y = head s e y := by
  have h1 := turn_lenL nd hx hy
  have h2 := turn_flag nd hx hy hf
  unfold head
  unfold len at h1
  rw [h1, h2]

theorem sortI_perm_eq {a b : List Int} (h : a.Perm b) : sortI a = sortI b := sortI_uniq ((sortI_perm a).trans h) (sortI_sorted a)

theorem turn_heads {s : List Int} {e x : Int} (nd : s.Nodup) (hx : x ∈ s) (hf : flag s e x = false) : heads (turn s x) e = heads s e := by
  unfold heads
  rw [sortI_perm_eq (turn_perm hx)]
  exact List.filter_congr fun y hy => turn_head nd hx ((sortI_perm s).mem_iff.mp hy) hf

theorem turn_free {s : List Int} {e x : Int} {r : Option (List Int)} (nd : s.Nodup) (hx : x ∈ s) (hf : flag s e x = false) : free (turn s x) e r = free s e r := by
  unfold free
  rw [turn_heads nd hx hf]
  exact List.filter_congr fun y hy => by rw [turn_lenL nd hx (heads_mem hy)]

theorem head_flag {s : List Int} {e x : Int} (h : head s e x = true) : flag s e x = false := by
  unfold head at h
  simp only [Bool.and_eq_true, Bool.not_eq_true'] at h
  exact h.2

/-- twice is not at all -/
theorem ext_getD {a b : List Int} (hl : a.length = b.length) (h : ∀ k, a.getD k 0 = b.getD k 0) : a = b := by
  apply List.ext_getElem hl
  intro k h1 h2
  have := h k
  simpa [List.getD_eq_getElem?_getD, h1, h2] using this

theorem turn_twice {s : List Int} {x : Int} (nd : s.Nodup) (hx : x ∈ s) : turn (turn s x) x = s := by
  obtain ⟨a, b, _⟩ := turn_self nd hx
  have hx2 : x ∈ turn s x := (turn_mem hx).mpr hx
  refine ext_getD ((turn_len hx2).trans (turn_len hx)) fun k => ?_
  rw [turn_get hx2, a, b]
  by_cases c : lo s x ≤ k ∧ k ≤ hi s x
  · rw [mir_in c.1 c.2]
    show (turn s x).getD _ 0 = _
    rw [turn_get hx, mir_in (by omega) (by omega)]
    show s.getD _ 0 = _
    rw [show lo s x + hi s x - (lo s x + hi s x - k) = k by omega]
  · rw [mir_out (by omega)]
    show (turn s x).getD _ 0 = _
    rw [turn_get hx, mir_out (by omega)]

theorem rev_cut (s : List Int) (i j : Nat) : dRev [.tup ((cut s i j).map .int)] = some (.tup ((cut s i j).reverse.map .int)) := rev_tup _

section
variable {f : Nat → Int} {n p L R q i j : Nat}

theorem apart_cl (A : SpA f p L) (B : SpB f n p R) (hq : q < L ∨ R < q) (a : SpA f q i) (b : SpB f n q j) : (0 < i → i - 1 < L ∨ R < i - 1) ∧ (j + 1 < n → j + 1 < L ∨ R < j + 1) := by
  obtain ⟨a1, a2, a3⟩ := A
  obtain ⟨b1, b0, b2, b3⟩ := B
  obtain ⟨c1, c2, c3⟩ := a
  obtain ⟨d1, d0, d2, d3⟩ := b
  have le : ∀ k, L ≤ k → k ≤ R → f k ≤ f p := fun k h1 h2 => by
    rcases Nat.lt_trichotomy k p with h | h | h
    · exact Int.le_of_lt (a2 k h1 h)
    · rw [h]; exact Int.le_refl _
    · exact Int.le_of_lt (b2 k h h2)
  rcases hq with hq | hq
  · refine ⟨fun h => .inl (by omega), fun h => Classical.byContradiction fun w => ?_⟩
    have hb := a3 (by omega)
    have far : L ≤ j → f p < f q := fun h => by
      rcases Nat.lt_or_ge q (L - 1) with z | z
      · have := d2 (L - 1) z (by omega); omega
      · obtain rfl : q = L - 1 := by omega
        exact hb
    have z := d3 h
    by_cases c2 : L ≤ j
    · have := far c2
      have := le (j + 1) (by omega) (by omega)
      omega
    · obtain rfl : L = j + 1 := by omega
      have := le (j + 1) (by omega) (by omega)
      rcases Nat.lt_or_ge q j with w | w
      · have := d2 j w (Nat.le_refl _)
        rw [show j + 1 - 1 = j by omega] at hb
        omega
      · obtain rfl : q = j := by omega
        rw [show q + 1 - 1 = q by omega] at hb
        omega
  · refine ⟨fun h => Classical.byContradiction fun w => ?_, fun h => .inr (by omega)⟩
    have hb : f p < f (R + 1) := b3 (by omega)
    have far : i ≤ R → f p < f q := fun h => by
      rcases Nat.lt_or_ge (R + 1) q with z | z
      · have := c2 (R + 1) (by omega) z; omega
      · obtain rfl : q = R + 1 := by omega
        exact hb
    have z := c3 h
    by_cases c4 : i ≤ R
    · have := far c4
      have := le (i - 1) (by omega) (by omega)
      omega
    · obtain rfl : i = R + 1 := by omega
      have := le (R + 1 - 1) (by omega) (by omega)
      rcases Nat.lt_or_ge (R + 1) q with w | w
      · have := c2 (R + 1) (Nat.le_refl _) w
        omega
      · obtain rfl : q = R + 1 := by omega
        omega
end

def mnP (a b : Option Int) : Option Int := match a, b with
  | none, none => none
  | some a, none => some a
  | none, some b => some b
  | some a, some b => some (min a b)

def clA (f : Nat → Int) (i : Nat) : Option Int := if 0 < i then some (f (i - 1)) else none

def clB (f : Nat → Int) (n j : Nat) : Option Int := if j + 1 < n then some (f (j + 1)) else none

theorem par_eq (s : List Int) (x : Int) : par s x = mnP (clA (s.getD · 0) (lo s x)) (clB (s.getD · 0) s.length (hi s x)) := by
  unfold par clo aI bI clA clB
  by_cases c1 : 0 < lo s x <;> by_cases c2 : hi s x + 1 < s.length <;> simp [c1, c2, mnO, mnP]

theorem mnP_comm (a b : Option Int) : mnP a b = mnP b a := by
  cases a <;> cases b <;> simp [mnP, Int.min_comm]

theorem mnP_left {a : Int} {b : Option Int} (h : ∀ c, b = some c → a ≤ c) : mnP (some a) b = some a := by
  cases b with
  | none => rfl
  | some c => have := h c rfl; simp [mnP]; omega

/-- parents stay -/
theorem turn_par {s : List Int} {x y : Int} (nd : s.Nodup) (hx : x ∈ s) (hy : y ∈ s) : par (turn s x) y = par s y := by
  rw [par_eq, par_eq, turn_fun hx, turn_len hx]
  have A := sp_lo nd hx
  have B := sp_hi nd hx
  have a := sp_lo nd hy
  have b := sp_hi nd hy
  by_cases c : ixOf y s < lo s x ∨ hi s x < ixOf y s
  · obtain ⟨e1, e2, _⟩ := turn_out nd hx hy c
    obtain ⟨h1, h2⟩ := apart_cl A B c a b
    rw [e1, e2]
    congr 1
    · unfold clA
      by_cases z : 0 < lo s y
      · rw [if_pos z, if_pos z, mir_out (h1 z)]
      · rw [if_neg z, if_neg z]
    · unfold clB
      by_cases z : hi s y + 1 < s.length
      · rw [if_pos z, if_pos z, mir_out (h2 z)]
      · rw [if_neg z, if_neg z]
  · by_cases n : y = x
    · subst n
      obtain ⟨e1, e2, _⟩ := turn_self nd hx
      rw [e1, e2]
      congr 1
      · unfold clA
        by_cases z : 0 < lo s y
        · rw [if_pos z, if_pos z, mir_out (.inl (by omega))]
        · rw [if_neg z, if_neg z]
      · unfold clB
        by_cases z : hi s y + 1 < s.length
        · rw [if_pos z, if_pos z, mir_out (.inr (by omega))]
        · rw [if_neg z, if_neg z]
    · obtain ⟨⟨w1, w2⟩, e1, e2, _⟩ := turn_in nd hx hy n (by omega) (by omega)
      have g1 := lo_le_ix s y
      have g2 := ix_le_hi s y
      have g3 := lo_le_ix s x
      have g4 := ix_le_hi s x
      have g5 := hi_lt hx
      have hq : ixOf y s ≠ ixOf x s := fun z => n (by rw [← ix_at hy, ← ix_at hx, z])
      have le : ∀ k, lo s x ≤ k → k ≤ hi s x → s.getD k 0 ≤ s.getD (ixOf x s) 0 := fun k h1 h2 => by
        rcases Nat.lt_trichotomy k (ixOf x s) with h | h | h
        · exact Int.le_of_lt (A.2.1 k h1 h)
        · rw [h]; exact Int.le_refl _
        · exact Int.le_of_lt (B.2.2.1 k h h2)
      have oA : ∀ c, clA (mir (s.getD · 0) (lo s x) (hi s x)) (lo s x) = some c → s.getD (ixOf x s) 0 < c := fun c h => by
        unfold clA at h
        by_cases z : 0 < lo s x
        · rw [if_pos z, mir_out (.inl (by omega))] at h
          cases h
          exact A.2.2 z
        · rw [if_neg z] at h; cases h
      have oB : ∀ c, clB (mir (s.getD · 0) (lo s x) (hi s x)) s.length (hi s x) = some c → s.getD (ixOf x s) 0 < c := fun c h => by
        unfold clB at h
        by_cases z : hi s x + 1 < s.length
        · rw [if_pos z, mir_out (.inr (by omega))] at h
          cases h
          exact B.2.2.2 z
        · rw [if_neg z] at h; cases h
      have pA : ∀ c, clA (s.getD · 0) (lo s x) = some c → s.getD (ixOf x s) 0 < c := fun c h => by
        unfold clA at h
        by_cases z : 0 < lo s x
        · rw [if_pos z] at h
          cases h
          exact A.2.2 z
        · rw [if_neg z] at h; cases h
      have pB : ∀ c, clB (s.getD · 0) s.length (hi s x) = some c → s.getD (ixOf x s) 0 < c := fun c h => by
        unfold clB at h
        by_cases z : hi s x + 1 < s.length
        · rw [if_pos z] at h
          cases h
          exact B.2.2.2 z
        · rw [if_neg z] at h; cases h
      rw [e1, e2]
      have tA : hi s y < hi s x → clA (mir (s.getD · 0) (lo s x) (hi s x)) (lo s x + hi s x - hi s y) = some (s.getD (hi s y + 1) 0) := fun h => by
        unfold clA
        rw [if_pos (by omega), mir_in (by omega) (by omega)]
        congr 2
        omega
      have tB : lo s x < lo s y → clB (mir (s.getD · 0) (lo s x) (hi s x)) s.length (lo s x + hi s x - lo s y) = some (s.getD (lo s y - 1) 0) := fun h => by
        unfold clB
        rw [if_pos (by omega), mir_in (by omega) (by omega)]
        congr 2
        omega
      have sA : lo s x < lo s y → clA (s.getD · 0) (lo s y) = some (s.getD (lo s y - 1) 0) := fun h => if_pos (by omega)
      have sB : hi s y < hi s x → clB (s.getD · 0) s.length (hi s y) = some (s.getD (hi s y + 1) 0) := fun h => if_pos (by omega)
      by_cases k1 : lo s x < lo s y
      · by_cases k2 : hi s y < hi s x
        · rw [tA k2, tB k1, sA k1, sB k2, mnP_comm]
        · have q2 : hi s y = hi s x := by omega
          rw [tB k1, sA k1, q2, show lo s x + hi s x - hi s x = lo s x by omega, mnP_comm, mnP_left fun c h => ?_, mnP_left fun c h => ?_]
          · have := pB c h
            have := le (lo s y - 1) (by omega) (by omega)
            omega
          · have := oA c h
            have := le (lo s y - 1) (by omega) (by omega)
            omega
      · have q1 : lo s y = lo s x := by omega
        by_cases k2 : hi s y < hi s x
        · rw [tA k2, sB k2, q1, show lo s x + hi s x - lo s x = hi s x by omega, mnP_left fun c h => ?_, mnP_comm, mnP_left fun c h => ?_]
          · have := pA c h
            have := le (hi s y + 1) (by omega) (by omega)
            omega
          · have := oB c h
            have := le (hi s y + 1) (by omega) (by omega)
            omega
        · exfalso
          have u1 : s.getD (ixOf x s) 0 < s.getD (ixOf y s) 0 := by
            rcases Nat.lt_or_gt_of_ne hq with h | h
            · exact b.2.2.1 _ h (by omega)
            · exact a.2.1 _ (by omega) h
          have u2 := le (ixOf y s) (by omega) (by omega)
          omega

/-- a record is in no lot of another stone that is no record -/
theorem rec_out {s : List Int} {e x p : Int} (nd : s.Nodup) (hx : x ∈ s) (hp : p ∈ s) (hf : flag s e x = false) (h : flag s e p = true) : ixOf p s < lo s x ∨ hi s x < ixOf p s := by
  refine Classical.byContradiction fun c => ?_
  have n : p ≠ x := fun z => by rw [z, hf] at h; cases h
  obtain ⟨⟨w1, w2⟩, _⟩ := turn_in nd hx hp n (by omega) (by omega)
  have h3 := hi_lt hx
  have h4 := lo_hi (s := s) (x := p)
  unfold flag opA opB at hf h
  simp only [Bool.or_eq_false_iff, decide_eq_false_iff_not] at hf
  simp only [Bool.or_eq_true, decide_eq_true_eq] at h
  omega

theorem turn_order {s : List Int} {e x y p : Int} (nd : s.Nodup) (hx : x ∈ s) (hy : y ∈ s) (hp : p ∈ s) (hf : flag s e x = false) (h : flag s e p = true) : (ixOf y (turn s x) < ixOf p (turn s x)) ↔ (ixOf y s < ixOf p s) := by
  have o := rec_out nd hx hp hf h
  obtain ⟨_, _, e1⟩ := turn_out nd hx hp o
  rw [e1]
  have g1 := lo_hi (s := s) (x := x)
  by_cases c : ixOf y s < lo s x ∨ hi s x < ixOf y s
  · obtain ⟨_, _, e2⟩ := turn_out nd hx hy c
    rw [e2]
  · by_cases n : y = x
    · subst n
      obtain ⟨_, _, e2⟩ := turn_self nd hx
      rw [e2]
      have := lo_le_ix s y
      have := ix_le_hi s y
      omega
    · obtain ⟨_, _, _, e2⟩ := turn_in nd hx hy n (by omega) (by omega)
      rw [e2]
      omega

def sideI (s : List Int) (e x : Int) : Int := match par s x with
  | none => -1
  | some p => if flag s e p = true then (if ixOf x s < ixOf p s then 0 else 1) else -1

def shpD (s : List Int) (e x : Int) : D := .tup [.int x, oD (par s x), .int (sideI s e x)]

def shapeD (s : List Int) (e : Int) : List D := (sortI s).map (shpD s e)

theorem turn_side {s : List Int} {e x y : Int} (nd : s.Nodup) (hx : x ∈ s) (hy : y ∈ s) (hf : flag s e x = false) : sideI (turn s x) e y = sideI s e y := by
  unfold sideI
  rw [turn_par nd hx hy]
  cases hp : par s y with
  | none => rfl
  | some p =>
    have hpm := par_mem hy p hp
    show (if flag (turn s x) e p = true then (if ixOf y (turn s x) < ixOf p (turn s x) then (0 : Int) else 1) else -1) = if flag s e p = true then (if ixOf y s < ixOf p s then 0 else 1) else -1
    rw [turn_flag nd hx hpm hf]
    by_cases c : flag s e p = true
    · rw [if_pos c, if_pos c]
      have := turn_order nd hx hy hpm hf c
      by_cases d : ixOf y s < ixOf p s
      · rw [if_pos d, if_pos (this.mpr d)]
      · rw [if_neg d, if_neg fun z => d (this.mp z)]
    · rw [if_neg c, if_neg c]

theorem turn_shape {s : List Int} {e x : Int} (nd : s.Nodup) (hx : x ∈ s) (hf : flag s e x = false) : shapeD (turn s x) e = shapeD s e := by
  unfold shapeD
  rw [sortI_perm_eq (turn_perm hx)]
  refine List.map_congr_left fun y hy => ?_
  have hy : y ∈ s := (sortI_perm s).mem_iff.mp hy
  unfold shpD
  rw [turn_par nd hx hy, turn_side nd hx hy hf]

end K58

namespace K58
open PySem TV
theorem lc_inv {vs : List Nat} {i : Nat} {t : MT} {u : ME} {I : Nat → TV.Env → List D → Prop} : ∀ (ds : List D) (k : Nat) (ρ : TV.Env) (acc : List D), I k ρ acc → acc.length + ds.length ≤ sizeLine →
    (∀ j d ρ acc, ds[j]? = some d → I (k + j) ρ acc → (∃ ρ1 ρ2 y, t (ρ.set i (some d)) = .ok (true, ρ1) ∧ u ρ1 = .ok (y, ρ2) ∧ y.own = false ∧ I (k + j + 1) (wipeE ρ2 vs) (acc ++ [y])) ∨ (∃ ρ1, t (ρ.set i (some d)) = .ok (false, ρ1) ∧ I (k + j + 1) (wipeE ρ1 vs) acc)) →
    ∃ ρ' acc', lcL vs (gN i) t u ds ρ acc = .ok (.lst acc', ρ') ∧ I (k + ds.length) ρ' acc'
  | [], k, ρ, acc, h, _, _ => ⟨ρ, acc, rfl, h⟩
  | d :: ds, k, ρ, acc, h, hz, hs => by
    rw [List.length_cons] at hz
    have nx : ∀ j d' ρ acc, ds[j]? = some d' → I (k + 1 + j) ρ acc → (∃ ρ1 ρ2 y, t (ρ.set i (some d')) = .ok (true, ρ1) ∧ u ρ1 = .ok (y, ρ2) ∧ y.own = false ∧ I (k + 1 + j + 1) (wipeE ρ2 vs) (acc ++ [y])) ∨ (∃ ρ1, t (ρ.set i (some d')) = .ok (false, ρ1) ∧ I (k + 1 + j + 1) (wipeE ρ1 vs) acc) := fun j d' ρ acc e q => by
      have := hs (j + 1) d' ρ acc e (by rw [show k + (j + 1) = k + 1 + j by omega]; exact q)
      rwa [show k + (j + 1) + 1 = k + 1 + j + 1 by omega] at this
    rcases hs 0 d ρ acc rfl h with ⟨ρ1, ρ2, y, e1, e2, e3, q⟩ | ⟨ρ1, e1, q⟩
    · obtain ⟨ρ', acc', e4, q4⟩ := lc_inv ds (k + 1) (wipeE ρ2 vs) (acc ++ [y]) q (by rw [List.length_append, List.length_singleton]; omega) nx
      refine ⟨ρ', acc', ?_, by rw [List.length_cons, show k + (ds.length + 1) = k + 1 + ds.length by omega]; exact q4⟩
      unfold lcL
      have e0 : gN i d ρ = .ok (ρ.set i (some d)) := rfl
      rw [e0]
      simp only [e1, e2]
      rw [if_pos ⟨e3, by omega⟩]
      exact e4
    · obtain ⟨ρ', acc', e4, q4⟩ := lc_inv ds (k + 1) (wipeE ρ1 vs) acc q (by omega) nx
      refine ⟨ρ', acc', ?_, by rw [List.length_cons, show k + (ds.length + 1) = k + 1 + ds.length by omega]; exact q4⟩
      unfold lcL
      have e0 : gN i d ρ = .ok (ρ.set i (some d)) := rfl
      rw [e0]
      simp only [e1]
      exact e4

theorem dRng_get {m n j : Nat} {d : D} (h : (dRng m n)[j]? = some d) : j < n ∧ d = .int ((m + j : Nat) : Int) := by
  have hj : j < n := by
    have := (List.getElem?_eq_some_iff.mp h).1
    simpa [dRng] using this
  refine ⟨hj, ?_⟩
  have e : (dRng m n)[j]? = some (.int (m + j : Nat)) := by simp [dRng, hj]
  rw [e] at h
  exact (Option.some.inj h).symm

theorem oD_some (p : Int) : oD (some p) = .int p := rfl

theorem oD_none : oD none = .non := rfl

theorem atI_last {α : Type} {xs : List α} {x : α} : L2.atI (xs ++ [x]) (-1) = some x := by
  have e : L2.ixN (xs ++ [x]).length (-1) = some xs.length := by
    unfold L2.ixN
    rw [List.length_append, List.length_singleton]
    simp
    omega
  unfold L2.atI
  rw [e]
  simp

def trL (s : List Int) : List Int → List (List Int)
  | [] => [s]
  | x :: xs => s :: trL (turn s x) xs

theorem trL_snoc (s : List Int) : ∀ (l : List Int) (x : Int), trL s (l ++ [x]) = trL s l ++ [turn (l.foldl turn s) x]
  | [], x => rfl
  | y :: l, x => by
    show s :: trL (turn s y) (l ++ [x]) = (s :: trL (turn s y) l) ++ [turn (l.foldl turn (turn s y)) x]
    rw [trL_snoc (turn s y) l x]
    rfl

theorem trL_last (s : List Int) : ∀ (l : List Int), ∃ A, trL s l = A ++ [l.foldl turn s]
  | [] => ⟨[], rfl⟩
  | y :: l => by
    obtain ⟨A, h⟩ := trL_last (turn s y) l
    exact ⟨s :: A, by show s :: trL (turn s y) l = _; rw [h]; rfl⟩

theorem trL_len (s : List Int) : ∀ (l : List Int), (trL s l).length = l.length + 1
  | [] => rfl
  | y :: l => by
    show (trL (turn s y) l).length + 1 = _
    rw [trL_len (turn s y) l]
    rfl

/-- what holds of a row and stays along turns of free heads -/
theorem run_keeps {P : List Int → Prop} {e : Int} {r : Option (List Int)} {s : List Int} (os : okS s) (h0 : P s) (hs : ∀ t x, okS t → free t e r = free s e r → x ∈ free t e r → P t → P (turn t x)) : ∀ l : List Int, (∀ x ∈ l, x ∈ free s e r) →
    (okS (l.foldl turn s) ∧ free (l.foldl turn s) e r = free s e r ∧ P (l.foldl turn s))
  | l, hl => by
    suffices ∀ (l : List Int) (t : List Int), okS t → free t e r = free s e r → P t → (∀ x ∈ l, x ∈ free s e r) → okS (l.foldl turn t) ∧ free (l.foldl turn t) e r = free s e r ∧ P (l.foldl turn t) from this l s os rfl h0 hl
    intro l
    induction l with
    | nil => exact fun t a b c _ => ⟨a, b, c⟩
    | cons x l ih =>
      intro t a b c h
      have hx : x ∈ free t e r := by rw [b]; exact h x List.mem_cons_self
      have hf := head_flag (List.mem_filter.mp (List.mem_filter.mp hx).1).2
      exact ih (turn t x) (turn_okS (free_mem hx) a) ((turn_free a.1 (free_mem hx) hf).trans b) (hs t x a b hx c) fun y hy => h y (List.mem_cons_of_mem _ hy)

theorem trL_all {P : List Int → Prop} {e : Int} {r : Option (List Int)} {s : List Int} (os : okS s) (h0 : P s) (hs : ∀ t x, okS t → free t e r = free s e r → x ∈ free t e r → P t → P (turn t x)) : ∀ (l : List Int) (t : List Int), okS t → free t e r = free s e r → P t → (∀ x ∈ l, x ∈ free s e r) →
    ∀ u ∈ trL t l, okS u ∧ free u e r = free s e r ∧ P u
  | [], t, a, b, c, _, u, hu => by
    cases List.mem_singleton.mp hu
    exact ⟨a, b, c⟩
  | x :: l, t, a, b, c, h, u, hu => by
    rcases List.mem_cons.mp hu with z | hu
    · subst z; exact ⟨a, b, c⟩
    · have hx : x ∈ free t e r := by rw [b]; exact h x List.mem_cons_self
      have hf := head_flag (List.mem_filter.mp (List.mem_filter.mp hx).1).2
      exact trL_all os h0 hs l (turn t x) (turn_okS (free_mem hx) a) ((turn_free a.1 (free_mem hx) hf).trans b) (hs t x a b hx c) (fun y hy => h y (List.mem_cons_of_mem _ hy)) u hu

theorem swap_ok {s t : List Int} {i j : Nat} (os : okS s) (hi : i < s.length) (hj : j < s.length) (hl : t.length = s.length) (h : ∀ k, k < s.length → t.getD k 0 = s.getD (if k = i then j else if k = j then i else k) 0) : okS t := by
  obtain ⟨nd, l1, l2, bd⟩ := os
  have inj : ∀ a b, a < s.length → b < s.length → s.getD a 0 = s.getD b 0 → a = b := fun a b ha hb e => by
    rw [List.getD_eq_getElem?_getD, List.getD_eq_getElem?_getD, List.getElem?_eq_getElem ha, List.getElem?_eq_getElem hb] at e
    have e : s[a] = s[b] := e
    have h1 := ix_inj nd ha
    have h2 := ix_inj nd hb
    rw [e, h2] at h1
    exact h1.symm
  have gt : ∀ k (hk : k < t.length), t[k] = s.getD (if k = i then j else if k = j then i else k) 0 := fun k hk => by
    have := h k (by omega)
    rw [List.getD_eq_getElem?_getD, List.getElem?_eq_getElem hk] at this
    exact this
  have lt : ∀ k, k < s.length → (if k = i then j else if k = j then i else k) < s.length := fun k hk => by
    split
    · exact hj
    · split
      · exact hi
      · exact hk
  refine ⟨?_, by omega, by omega, fun y hy => ?_⟩
  · rw [List.nodup_iff_pairwise_ne, List.pairwise_iff_getElem]
    intro a b ha hb hab e
    rw [gt a ha, gt b hb] at e
    have := inj _ _ (lt a (by omega)) (lt b (by omega)) e
    split at this <;> split at this <;> try split at this
    all_goals (try split at this) <;> omega
  · obtain ⟨k, hk, rfl⟩ := List.getElem_of_mem hy
    rw [gt k hk]
    have hk2 := lt k (by omega)
    rw [List.getD_eq_getElem?_getD, List.getElem?_eq_getElem hk2]
    exact bd _ (List.getElem_mem hk2)

theorem nice_oD (o : Option Int) (n : Nat) : D.nice n (oD o) = true := by cases o <;> cases n <;> rfl

theorem nice_shape (s : List Int) (e : Int) : D.nice 8 (.tup (shapeD s e)) = true := nices_mem (n := 7) fun d hd => by
  obtain ⟨x, _, rfl⟩ := List.mem_map.mp hd
  exact nices_mem (n := 6) (l := [.int x, oD (par s x), .int (sideI s e x)]) fun d hd => by
    simp only [List.mem_cons, List.not_mem_nil, or_false] at hd
    rcases hd with rfl | rfl | rfl
    · exact nice_int _ _
    · exact nice_oD _ _
    · exact nice_int _ _

end K58

namespace K58
open PySem TV
theorem mem_cut {s : List Int} {i j : Nat} {z : Int} (hz : z ∈ s) (h1 : i ≤ ixOf z s) (h2 : ixOf z s < j) (hj : j ≤ s.length) : z ∈ cut s i j := by
  have e := cut_get (s := s) (i := i) (j := j) (k := ixOf z s - i) (by omega) hj
  rw [show i + (ixOf z s - i) = ixOf z s by omega, ixOf_get hz] at e
  exact List.mem_of_getElem? e

/-- z is another stone of x's lot -/
def inLot (s : List Int) (x z : Int) : Prop := z ∈ s ∧ z ≠ x ∧ lo s x ≤ ixOf z s ∧ ixOf z s ≤ hi s x

theorem ix_ne {s : List Int} {x z : Int} (hx : x ∈ s) (hz : z ∈ s) (n : z ≠ x) : ixOf z s ≠ ixOf x s := fun e => n (by rw [← ix_at hz, ← ix_at hx, e])

theorem kid_in {s : List Int} {x z : Int} (nd : s.Nodup) (hx : x ∈ s) (h : z ∈ kids s x) : inLot s x z := by
  have g1 := lo_le_ix s x
  have g2 := ix_le_hi s x
  have ne : ∀ {w}, ixOf w s ≠ ixOf x s → w ≠ x := fun h e => h (by rw [e])
  unfold kids at h
  rcases List.mem_append.mp h with h | h
  · have hk : kidA s x = some z := by
      cases hh : kidA s x with
      | none => rw [hh] at h; cases h
      | some w => rw [hh] at h; cases List.mem_singleton.mp h; rfl
    have hm := (mxO_spec hk).1
    obtain ⟨a, b⟩ := cut_ix nd hm
    exact ⟨cut_mem hm, ne (by omega), by omega, by omega⟩
  · have hk : kidB s x = some z := by
      cases hh : kidB s x with
      | none => rw [hh] at h; cases h
      | some w => rw [hh] at h; cases List.mem_singleton.mp h; rfl
    have hm := (mxO_spec hk).1
    obtain ⟨a, b⟩ := cut_ix nd hm
    exact ⟨cut_mem hm, ne (by omega), by omega, by omega⟩

theorem kid_le {s : List Int} {x z : Int} (nd : s.Nodup) (hx : x ∈ s) (h : inLot s x z) : ∃ c ∈ kids s x, z ≤ c := by
  obtain ⟨hz, n, h1, h2⟩ := h
  have g := hi_lt hx
  have hn := ix_ne hx hz n
  unfold kids
  rcases Nat.lt_or_gt_of_ne hn with c | c
  · have hm := mem_cut (i := lo s x) (j := ixOf x s) hz h1 c (Nat.le_of_lt (ixOf_lt hx))
    cases hh : kidA s x with
    | none => exact absurd hm (by rw [mxO_none hh]; simp)
    | some w => exact ⟨w, List.mem_append_left _ (by simp), (mxO_spec hh).2 z hm⟩
  · have hm := mem_cut (i := ixOf x s + 1) (j := hi s x + 1) hz (by omega) (by omega) (by omega)
    cases hh : kidB s x with
    | none => exact absurd hm (by rw [mxO_none hh]; simp)
    | some w => exact ⟨w, List.mem_append_right _ (by simp), (mxO_spec hh).2 z hm⟩

theorem gc_some {s : List Int} {x c : Int} (nd : s.Nodup) (hx : x ∈ s) (h : gcO s x = some c) : inLot s x c ∧ ∀ z, inLot s x z → z ≤ c := by
  obtain ⟨h1, h2⟩ := mxO_spec h
  refine ⟨kid_in nd hx h1, fun z hz => ?_⟩
  obtain ⟨w, hw, hl⟩ := kid_le nd hx hz
  exact Int.le_trans hl (h2 w hw)

theorem gc_none {s : List Int} {x z : Int} (nd : s.Nodup) (hx : x ∈ s) (h : gcO s x = none) : ¬ inLot s x z := fun hz => by
  obtain ⟨w, hw, _⟩ := kid_le nd hx hz
  rw [mxO_none h] at hw
  cases hw

theorem apart_nest {f : Nat → Int} {n p L R q i j : Nat} (A : SpA f p L) (B : SpB f n p R) (hq : q < L ∨ R < q) (a : SpA f q i) (b : SpB f n q j) : (i ≤ L ∧ R ≤ j) ∨ j < L ∨ R < i := by
  obtain ⟨h1, h2⟩ := apart_cl A B hq a b
  have := A.1
  have := B.1
  have := B.2.1
  have := a.1
  have := b.1
  have := b.2.1
  rcases hq with hq | hq
  · by_cases c : j + 1 < n
    · have := h2 c; omega
    · omega
  · by_cases c : 0 < i
    · have := h1 c; omega
    · omega

theorem turn_inLot {s : List Int} {t x z : Int} (nd : s.Nodup) (ht : t ∈ s) (hx : x ∈ s) : inLot (turn s t) x z ↔ inLot s x z := by
  unfold inLot
  rw [turn_mem ht]
  by_cases hz : z ∈ s
  · by_cases n : z = x
    · simp [n]
    · simp only [hz, true_and, ne_eq, n, not_false_eq_true]
      have tl := lo_hi (s := s) (x := t)
      have zi : (ixOf z s < lo s t ∨ hi s t < ixOf z s) → ixOf z (turn s t) = ixOf z s := fun h => (turn_out nd ht hz h).2.2
      have zo : ¬ (ixOf z s < lo s t ∨ hi s t < ixOf z s) → ixOf z (turn s t) = lo s t + hi s t - ixOf z s := fun h => by
        by_cases e : z = t
        · subst e; exact (turn_self nd hz).2.2
        · exact (turn_in nd ht hz e (by omega) (by omega)).2.2.2
      by_cases c : ixOf x s < lo s t ∨ hi s t < ixOf x s
      · obtain ⟨e1, e2, _⟩ := turn_out nd ht hx c
        rw [e1, e2]
        have ne := apart_nest (sp_lo nd ht) (sp_hi nd ht) c (sp_lo nd hx) (sp_hi nd hx)
        by_cases d : ixOf z s < lo s t ∨ hi s t < ixOf z s
        · rw [zi d]
        · rw [zo d]; omega
      · by_cases e : x = t
        · subst e
          obtain ⟨e1, e2, _⟩ := turn_self nd hx
          rw [e1, e2]
          by_cases d : ixOf z s < lo s x ∨ hi s x < ixOf z s
          · rw [zi d]
          · rw [zo d]; omega
        · obtain ⟨⟨w1, w2⟩, e1, e2, _⟩ := turn_in nd ht hx e (by omega) (by omega)
          have := lo_hi (s := s) (x := x)
          rw [e1, e2]
          by_cases d : ixOf z s < lo s t ∨ hi s t < ixOf z s
          · rw [zi d]; omega
          · rw [zo d]; omega
  · simp [hz]

theorem turn_gc {s : List Int} {t x : Int} (nd : s.Nodup) (ht : t ∈ s) (hx : x ∈ s) : gcO (turn s t) x = gcO s x := by
  have nt := turn_nd ht nd
  have hx2 : x ∈ turn s t := (turn_mem ht).mpr hx
  cases h1 : gcO s x with
  | none =>
    cases h2 : gcO (turn s t) x with
    | none => rfl
    | some c => exact absurd ((turn_inLot nd ht hx).mp (gc_some nt hx2 h2).1) (gc_none nd hx h1)
  | some c =>
    obtain ⟨a1, a2⟩ := gc_some nd hx h1
    cases h2 : gcO (turn s t) x with
    | none => exact absurd ((turn_inLot nd ht hx).mpr a1) (gc_none nt hx2 h2)
    | some d =>
      obtain ⟨b1, b2⟩ := gc_some nt hx2 h2
      have := a2 d ((turn_inLot nd ht hx).mp b1)
      have := b2 c ((turn_inLot nd ht hx).mpr a1)
      congr 1
      omega

/-- where a stone goes -/
theorem turn_ix {s : List Int} {t z : Int} (nd : s.Nodup) (ht : t ∈ s) (hz : z ∈ s) : ixOf z (turn s t) = if ixOf z s < lo s t ∨ hi s t < ixOf z s then ixOf z s else lo s t + hi s t - ixOf z s := by
  by_cases d : ixOf z s < lo s t ∨ hi s t < ixOf z s
  · rw [if_pos d]; exact (turn_out nd ht hz d).2.2
  · rw [if_neg d]
    by_cases e : z = t
    · subst e; exact (turn_self nd hz).2.2
    · exact (turn_in nd ht hz e (by omega) (by omega)).2.2.2

/-- the parent stands right beside the lot, and is greater -/
theorem par_at {s : List Int} {x p : Int} (nd : s.Nodup) (hx : x ∈ s) (h : par s x = some p) : x < p ∧ ((0 < lo s x ∧ ixOf p s = lo s x - 1) ∨ (hi s x + 1 < s.length ∧ ixOf p s = hi s x + 1)) := by
  have a := sp_lo nd hx
  have b := sp_hi nd hx
  have m := (mnO_spec h).1
  have at0 := ix_at hx
  have g1 := hi_lt hx
  have g0 := lo_lt hx
  unfold clo aI bI at m
  rcases List.mem_append.mp m with m | m
  · by_cases c : 0 < lo s x
    · rw [if_pos c] at m
      have e : p = s.getD (lo s x - 1) 0 := List.mem_singleton.mp m
      have hk : lo s x - 1 < s.length := by omega
      rw [List.getD_eq_getElem?_getD, List.getElem?_eq_getElem hk] at e
      have e : p = s[lo s x - 1] := e
      refine ⟨?_, .inl ⟨c, by rw [e]; exact ix_inj nd hk⟩⟩
      have z : s.getD (ixOf x s) 0 < s.getD (lo s x - 1) 0 := a.2.2 c
      rw [at0, List.getD_eq_getElem?_getD, List.getElem?_eq_getElem hk] at z
      rw [e]; exact z
    · rw [if_neg c] at m; cases m
  · by_cases c : hi s x + 1 < s.length
    · rw [if_pos c] at m
      have e : p = s.getD (hi s x + 1) 0 := List.mem_singleton.mp m
      rw [List.getD_eq_getElem?_getD, List.getElem?_eq_getElem c] at e
      have e : p = s[hi s x + 1] := e
      refine ⟨?_, .inr ⟨c, by rw [e]; exact ix_inj nd c⟩⟩
      have z : s.getD (ixOf x s) 0 < s.getD (hi s x + 1) 0 := b.2.2.2 c
      rw [at0, List.getD_eq_getElem?_getD, List.getElem?_eq_getElem c] at z
      rw [e]; exact z
    · rw [if_neg c] at m; cases m

/-- within a lot the parent is within -/
theorem par_within {s : List Int} {t x : Int} (nd : s.Nodup) (ht : t ∈ s) (h : inLot s t x) : ∃ p, par s x = some p ∧ p ∈ s ∧ lo s t ≤ ixOf p s ∧ ixOf p s ≤ hi s t := by
  obtain ⟨hx, n, h1, h2⟩ := h
  obtain ⟨⟨w1, w2⟩, _⟩ := turn_in nd ht hx n h1 h2
  have A := sp_lo nd ht
  have B := sp_hi nd ht
  have a := sp_lo nd hx
  have b := sp_hi nd hx
  have g1 := lo_le_ix s x
  have g2 := ix_le_hi s x
  have g3 := lo_le_ix s t
  have g4 := ix_le_hi s t
  have g5 := hi_lt ht
  have hq : ixOf x s ≠ ixOf t s := ix_ne ht hx n
  have le : ∀ k, lo s t ≤ k → k ≤ hi s t → s.getD k 0 ≤ s.getD (ixOf t s) 0 := fun k h1 h2 => by
    rcases Nat.lt_trichotomy k (ixOf t s) with h | h | h
    · exact Int.le_of_lt (A.2.1 k h1 h)
    · rw [h]; exact Int.le_refl _
    · exact Int.le_of_lt (B.2.2.1 k h h2)
  have tt := ix_at ht
  have inner : lo s t < lo s x ∨ hi s x < hi s t := Classical.byContradiction fun k => by
    have u1 : s.getD (ixOf t s) 0 < s.getD (ixOf x s) 0 := by
      rcases Nat.lt_or_gt_of_ne hq with h | h
      · exact b.2.2.1 _ h (by omega)
      · exact a.2.1 _ (by omega) h
    have u2 := le (ixOf x s) h1 h2
    omega
  -- one closer is at most t
  have one : ∃ c ∈ clo s x, c ≤ t := by
    unfold clo aI bI
    rcases inner with k | k
    · refine ⟨s.getD (lo s x - 1) 0, List.mem_append_left _ ?_, ?_⟩
      · rw [if_pos (by omega)]; simp
      · have := le (lo s x - 1) (by omega) (by omega)
        rwa [tt] at this
    · refine ⟨s.getD (hi s x + 1) 0, List.mem_append_right _ ?_, ?_⟩
      · rw [if_pos (by omega)]; simp
      · have := le (hi s x + 1) (by omega) (by omega)
        rwa [tt] at this
  cases hp : par s x with
  | none =>
    obtain ⟨c, hc, _⟩ := one
    rw [mnO_none hp] at hc
    cases hc
  | some p =>
    obtain ⟨c, hc, hct⟩ := one
    have pt : p ≤ t := Int.le_trans ((mnO_spec hp).2 c hc) hct
    have pm := par_mem hx p hp
    refine ⟨p, rfl, pm, ?_⟩
    obtain ⟨_, h | h⟩ := par_at nd hx hp
    · refine ⟨?_, by omega⟩
      refine Classical.byContradiction fun k => ?_
      have e : ixOf p s = lo s t - 1 := by omega
      have z : s.getD (ixOf t s) 0 < s.getD (lo s t - 1) 0 := A.2.2 (by omega)
      rw [tt, ← e, ix_at pm] at z
      omega
    · refine ⟨by omega, ?_⟩
      refine Classical.byContradiction fun k => ?_
      have e : ixOf p s = hi s t + 1 := by omega
      have z : s.getD (ixOf t s) 0 < s.getD (hi s t + 1) 0 := B.2.2.2 (by omega)
      rw [tt, ← e, ix_at pm] at z
      omega

/-- a turn changes the sense of the turned stone alone -/
theorem turn_sns {s : List Int} {t x : Int} (nd : s.Nodup) (ht : t ∈ s) (hx : x ∈ s) (h : lo s x < hi s x) : sns (turn s t) x = (sns s x != decide (x = t)) := by
  obtain ⟨c, hc, _⟩ := kids_ne hx h
  obtain ⟨⟨cm, cn, c1, c2⟩, _⟩ := gc_some nd hx hc
  have cne := ix_ne hx cm cn
  have tl := lo_hi (s := s) (x := t)
  have t1 := lo_le_ix s t
  have t2 := ix_le_hi s t
  unfold sns
  rw [turn_gc nd ht hx, turn_par nd ht hx, hc]
  simp only
  have ec := turn_ix nd ht cm
  have ex := turn_ix nd ht hx
  by_cases o : ixOf x s < lo s t ∨ hi s t < ixOf x s
  · -- apart: nothing changes
    have xt : x ≠ t := fun z => by subst z; omega
    rw [if_pos o] at ex
    have o1 : decide (ixOf c (turn s t) < ixOf x (turn s t)) = decide (ixOf c s < ixOf x s) := by
      rw [ex, ec, decide_eq_decide]
      split
      · exact Iff.rfl
      · omega
    have o2 : ahO (turn s t) x (par s x) = ahO s x (par s x) := by
      cases hp : par s x with
      | none => rfl
      | some p =>
        have ep := turn_ix nd ht (par_mem hx p hp)
        show decide (ixOf x (turn s t) < ixOf p (turn s t)) = decide (ixOf x s < ixOf p s)
        rw [ex, ep, decide_eq_decide]
        split
        · exact Iff.rfl
        · omega
    rw [o1, o2]
    simp [xt]
  · rw [if_neg o] at ex
    by_cases xt : x = t
    · subst xt
      have ci : ¬ (ixOf c s < lo s x ∨ hi s x < ixOf c s) := by omega
      rw [if_neg ci] at ec
      have o1 : decide (ixOf c (turn s x) < ixOf x (turn s x)) = !decide (ixOf c s < ixOf x s) := by
        rw [ex, ec, ← decide_not, decide_eq_decide]
        omega
      have o2 : ahO (turn s x) x (par s x) = ahO s x (par s x) := by
        cases hp : par s x with
        | none => rfl
        | some p =>
          have ep := turn_ix nd ht (par_mem hx p hp)
          obtain ⟨_, hh⟩ := par_at nd hx hp
          show decide (ixOf x (turn s x) < ixOf p (turn s x)) = decide (ixOf x s < ixOf p s)
          have po : ixOf p s < lo s x ∨ hi s x < ixOf p s := by omega
          rw [if_pos po] at ep
          rw [ex, ep, decide_eq_decide]
          omega
      rw [o1, o2]
      cases decide (ixOf c s < ixOf x s) <;> cases ahO s x (par s x) <;> simp
    · obtain ⟨⟨w1, w2⟩, _⟩ := turn_in nd ht hx xt (by omega) (by omega)
      have ci : ¬ (ixOf c s < lo s t ∨ hi s t < ixOf c s) := by omega
      rw [if_neg ci] at ec
      obtain ⟨p, hp, pm, p1, p2⟩ := par_within nd ht ⟨hx, xt, by omega, by omega⟩
      have ep := turn_ix nd ht pm
      rw [if_neg (by omega)] at ep
      have pn : ixOf x s ≠ ixOf p s := by
        obtain ⟨_, hh⟩ := par_at nd hx hp
        have := lo_le_ix s x
        have := ix_le_hi s x
        omega
      have o1 : decide (ixOf c (turn s t) < ixOf x (turn s t)) = !decide (ixOf c s < ixOf x s) := by
        rw [ex, ec, ← decide_not, decide_eq_decide]
        omega
      have o2 : ahO (turn s t) x (par s x) = !ahO s x (par s x) := by
        rw [hp]
        show decide (ixOf x (turn s t) < ixOf p (turn s t)) = !decide (ixOf x s < ixOf p s)
        rw [ex, ep, ← decide_not, decide_eq_decide]
        omega
      rw [o1, o2]
      cases decide (ixOf c s < ixOf x s) <;> cases ahO s x (par s x) <;> simp [xt]

/-- x stands ahead of y -/
def Od (s : List Int) (x y : Int) : Prop := ixOf x s < ixOf y s

theorem lt_notin {s : List Int} {x y : Int} (nd : s.Nodup) (hx : x ∈ s) (hy : y ∈ s) (h : x < y) : ixOf y s < lo s x ∨ hi s x < ixOf y s := Classical.byContradiction fun c => by
  have a := sp_lo nd hx
  have b := sp_hi nd hx
  have e1 := ix_at hx
  have e2 := ix_at hy
  rcases Nat.lt_trichotomy (ixOf y s) (ixOf x s) with h1 | h1 | h1
  · have z : s.getD (ixOf y s) 0 < s.getD (ixOf x s) 0 := a.2.1 _ (by omega) h1
    rw [e1, e2] at z; omega
  · rw [← e1, ← e2, h1] at h; omega
  · have z : s.getD (ixOf y s) 0 < s.getD (ixOf x s) 0 := b.2.2.1 _ h1 (by omega)
    rw [e1, e2] at z; omega

theorem ix_eq_of {s : List Int} {x y : Int} (hx : x ∈ s) (hy : y ∈ s) (h : ixOf x s = ixOf y s) : x = y := by rw [← ix_at hx, ← ix_at hy, h]

/-- a greater stone other than the parent stands to x as to the parent -/
theorem od_up {s : List Int} {x y p : Int} (nd : s.Nodup) (hx : x ∈ s) (hy : y ∈ s) (h : x < y) (hp : par s x = some p) (n : y ≠ p) : Od s x y ↔ Od s p y := by
  have o := lt_notin nd hx hy h
  have pm := par_mem hx p hp
  have ne : ixOf y s ≠ ixOf p s := fun z => n (ix_eq_of hy pm z)
  obtain ⟨_, hh⟩ := par_at nd hx hp
  have := lo_le_ix s x
  have := ix_le_hi s x
  unfold Od
  omega

theorem od_up' {s : List Int} {x y p : Int} (nd : s.Nodup) (hx : x ∈ s) (hy : y ∈ s) (h : x < y) (hp : par s x = some p) (n : y ≠ p) : Od s y x ↔ Od s y p := by
  have o := lt_notin nd hx hy h
  have pm := par_mem hx p hp
  have ne : ixOf y s ≠ ixOf p s := fun z => n (ix_eq_of hy pm z)
  obtain ⟨_, hh⟩ := par_at nd hx hp
  have := lo_le_ix s x
  have := ix_le_hi s x
  unfold Od
  omega

/-- who has a greater stone has a parent -/
theorem par_ex {s : List Int} {x y : Int} (nd : s.Nodup) (hx : x ∈ s) (hy : y ∈ s) (h : x < y) : ∃ p, par s x = some p := by
  cases hp : par s x with
  | some p => exact ⟨p, rfl⟩
  | none =>
    exfalso
    have o := lt_notin nd hx hy h
    have e := mnO_none hp
    have := ixOf_lt hy
    unfold clo aI bI at e
    have e1 := (List.append_eq_nil_iff.mp e).1
    have e2 := (List.append_eq_nil_iff.mp e).2
    by_cases c1 : 0 < lo s x
    · rw [if_pos c1] at e1; cases e1
    · by_cases c2 : hi s x + 1 < s.length
      · rw [if_pos c2] at e2; cases e2
      · omega

/-- parents, and how each stone stands to its parent, tell the order of all -/
theorem od_det {s t : List Int} (ns : s.Nodup) (nt : t.Nodup) (m : ∀ x, x ∈ s ↔ x ∈ t) (hp : ∀ x ∈ s, par s x = par t x) (ho : ∀ x p, x ∈ s → par s x = some p → (Od s x p ↔ Od t x p)) :
    ∀ (k : Nat) (x y : Int), x ∈ s → y ∈ s → x ≠ y → (s.filter fun z => decide (x < z)).length + (s.filter fun z => decide (y < z)).length ≤ k → (Od s x y ↔ Od t x y) := by
  have dec : ∀ x p : Int, p ∈ s → x < p → (s.filter fun z => decide (p < z)).length < (s.filter fun z => decide (x < z)).length := fun x p pm h => by
    have sub : ((s.filter fun z => decide (x < z)).filter fun z => decide (p < z)) = s.filter fun z => decide (p < z) := by
      rw [List.filter_filter]
      refine List.filter_congr fun z _ => ?_
      by_cases c : p < z
      · have : x < z := by omega
        simp [c, this]
      · simp [c]
    rw [← sub]
    refine Nat.lt_of_le_of_ne (List.length_filter_le _ _) fun e => ?_
    have := List.length_filter_eq_length_iff.mp e p (List.mem_filter.mpr ⟨pm, by simpa using h⟩)
    simp at this
  intro k
  induction k with
  | zero =>
    intro x y hx hy n hk
    exfalso
    rcases Int.lt_or_gt_of_ne n with h | h
    · have := dec x y hy h; omega
    · have := dec y x hx h; omega
  | succ k ih =>
    intro x y hx hy n hk
    rcases Int.lt_or_gt_of_ne n with h | h
    · obtain ⟨p, e⟩ := par_ex ns hx hy h
      have pm := par_mem hx p e
      by_cases c : y = p
      · subst c; exact ho x y hx e
      · have xp := (par_at ns hx e).1
        rw [od_up ns hx hy h e c, od_up nt ((m x).mp hx) ((m y).mp hy) h ((hp x hx) ▸ e) c]
        have := dec x p pm xp
        exact ih p y pm hy (Ne.symm c) (by omega)
    · have h : y < x := h
      obtain ⟨p, e⟩ := par_ex ns hy hx h
      have pm := par_mem hy p e
      by_cases c : x = p
      · subst c
        have w := ho y x hy e
        have n1 : ixOf x s ≠ ixOf y s := fun z => n (ix_eq_of hx hy z)
        have n2 : ixOf x t ≠ ixOf y t := fun z => n (ix_eq_of ((m x).mp hx) ((m y).mp hy) z)
        unfold Od at w ⊢
        omega
      · have xp := (par_at ns hy e).1
        rw [od_up' ns hy hx h e c, od_up' nt ((m y).mp hy) ((m x).mp hx) h ((hp y hy) ▸ e) c]
        have := dec y p pm xp
        exact ih x p hx pm c (by omega)

/-- who stand alike are alike -/
theorem eq_of_od {s t : List Int} (ns : s.Nodup) (nt : t.Nodup) (m : ∀ x, x ∈ s ↔ x ∈ t) (ho : ∀ x y, x ∈ s → y ∈ s → x ≠ y → (Od s x y ↔ Od t x y)) : s = t := by
  have pm : s.Perm t := (List.perm_ext_iff_of_nodup ns nt).mpr m
  have sp : s.Pairwise (Od s) := by
    rw [List.pairwise_iff_getElem]
    intro i j hi hj hij
    unfold Od
    rw [ix_inj ns hi, ix_inj ns hj]
    exact hij
  have tp : t.Pairwise (Od s) := by
    rw [List.pairwise_iff_getElem]
    intro i j hi hj hij
    have hi2 : t[i] ∈ s := (m _).mpr (List.getElem_mem hi)
    have hj2 : t[j] ∈ s := (m _).mpr (List.getElem_mem hj)
    have o : Od t t[i] t[j] := by
      unfold Od
      rw [ix_inj nt hi, ix_inj nt hj]
      exact hij
    refine (ho _ _ hi2 hj2 fun e => ?_).mpr o
    unfold Od at o
    rw [e] at o
    omega
  exact pm.eq_of_pairwise (fun a b _ _ h1 h2 => by unfold Od at h1 h2; omega) sp tp
/-! children -/

theorem par_of_in {s : List Int} {x p : Int} (nd : s.Nodup) (hx : x ∈ s) (h : par s x = some p) : inLot s p x := by
  have pm := par_mem hx p h
  obtain ⟨lt, hh⟩ := par_at nd hx h
  have a := sp_lo nd hx
  have b := sp_hi nd hx
  have A := sp_lo nd pm
  have B := sp_hi nd pm
  have e1 := ix_at hx
  have e2 := ix_at pm
  have g1 := lo_le_ix s x
  have g2 := ix_le_hi s x
  have g3 := lo_le_ix s p
  have g4 := ix_le_hi s p
  have g5 := hi_lt hx
  have le : ∀ k, lo s x ≤ k → k ≤ hi s x → s.getD k 0 < p := fun k h1 h2 => by
    rcases Nat.lt_trichotomy k (ixOf x s) with h | h | h
    · have z : s.getD k 0 < s.getD (ixOf x s) 0 := a.2.1 k h1 h
      omega
    · rw [h, e1]; exact lt
    · have z : s.getD k 0 < s.getD (ixOf x s) 0 := b.2.2.1 k h h2
      omega
  refine ⟨hx, fun z => by omega, ?_, ?_⟩
  · refine Classical.byContradiction fun c => ?_
    rcases hh with ⟨h0, h1⟩ | ⟨h0, h1⟩
    · omega
    · have z : s.getD (ixOf p s) 0 < s.getD (lo s p - 1) 0 := A.2.2 (by omega)
      have := le (lo s p - 1) (by omega) (by omega)
      omega
  · refine Classical.byContradiction fun c => ?_
    rcases hh with ⟨h0, h1⟩ | ⟨h0, h1⟩
    · have z : s.getD (ixOf p s) 0 < s.getD (hi s p + 1) 0 := B.2.2.2 (by omega)
      have := le (hi s p + 1) (by omega) (by omega)
      omega
    · omega

theorem gc_par {s : List Int} {p g : Int} (nd : s.Nodup) (hp : p ∈ s) (h : gcO s p = some g) : par s g = some p := by
  obtain ⟨⟨gm, gn, g1, g2⟩, gmax⟩ := gc_some nd hp h
  obtain ⟨q, hq, qm, q1, q2⟩ := par_within nd hp ⟨gm, gn, g1, g2⟩
  have gq := (par_at nd gm hq).1
  by_cases c : q = p
  · rw [c] at hq; exact hq
  · have := gmax q ⟨qm, c, q1, q2⟩
    omega

/-- two children of one stand on both sides of it -/
theorem kids_apart {s : List Int} {c d p : Int} (nd : s.Nodup) (hc : c ∈ s) (hd : d ∈ s) (n : c ≠ d) (h1 : par s c = some p) (h2 : par s d = some p) : Od s c p ↔ ¬ Od s d p := by
  have pm := par_mem hc p h1
  obtain ⟨_, a⟩ := par_at nd hc h1
  obtain ⟨_, b⟩ := par_at nd hd h2
  have k1 := lo_le_ix s c
  have k2 := ix_le_hi s c
  have k3 := lo_le_ix s d
  have k4 := ix_le_hi s d
  have no : ∀ {u v : Int}, u ∈ s → v ∈ s → u ≠ v → par s v = some p → ixOf p s < lo s u ∨ hi s u < ixOf p s → ¬ (lo s u ≤ ixOf v s ∧ ixOf v s ≤ hi s u) := fun {u v} hu hv uv hvp po z => by
    obtain ⟨q, hq, _, q1, q2⟩ := par_within nd hu ⟨hv, Ne.symm uv, z.1, z.2⟩
    rw [hvp] at hq
    cases hq
    omega
  have n1 := no hc hd n h2 (by omega)
  have n2 := no hd hc (Ne.symm n) h1 (by omega)
  unfold Od
  omega

theorem gc_same {s t : List Int} (ns : s.Nodup) (nt : t.Nodup) (m : ∀ x, x ∈ s ↔ x ∈ t) (hp : ∀ x ∈ s, par s x = par t x) {p : Int} (pm : p ∈ s) : gcO s p = gcO t p := by
  have one : ∀ {a b : List Int}, a.Nodup → b.Nodup → (∀ x, x ∈ a ↔ x ∈ b) → (∀ x ∈ a, par a x = par b x) → p ∈ a → ∀ g, gcO a p = some g → ∃ w, gcO b p = some w ∧ g ≤ w := fun {a b} na nb m hp pm g hg => by
    obtain ⟨⟨gm, _⟩, _⟩ := gc_some na pm hg
    have e := gc_par na pm hg
    rw [hp g gm] at e
    have i := par_of_in nb ((m g).mp gm) e
    cases hw : gcO b p with
    | none => exact absurd i (gc_none nb ((m p).mp pm) hw)
    | some w => exact ⟨w, rfl, (gc_some nb ((m p).mp pm) hw).2 g i⟩
  cases h1 : gcO s p with
  | none =>
    cases h2 : gcO t p with
    | none => rfl
    | some g =>
      obtain ⟨w, hw, _⟩ := one nt ns (fun x => (m x).symm) (fun x hx => (hp x ((m x).mpr hx)).symm) ((m p).mp pm) g h2
      rw [h1] at hw; cases hw
  | some g =>
    obtain ⟨w, hw, gw⟩ := one ns nt m hp pm g h1
    obtain ⟨v, hv, wv⟩ := one nt ns (fun x => (m x).symm) (fun x hx => (hp x ((m x).mpr hx)).symm) ((m p).mp pm) w hw
    rw [h1] at hv
    cases hv
    rw [hw]
    congr 1
    omega

/-- what shape and senses tell -/
theorem kid_det {s t : List Int} {e' : Int} (ns : s.Nodup) (nt : t.Nodup) (m : ∀ x, x ∈ s ↔ x ∈ t) (hp : ∀ x ∈ s, par s x = par t x) (hs : ∀ x ∈ s, sideI s e' x = sideI t e' x) (hn : ∀ x ∈ s, flag s e' x = false → lo s x < hi s x → sns s x = sns t x) :
    ∀ (k : Nat) (c p : Int), c ∈ s → par s c = some p → (s.filter fun z => decide (p < z)).length < k → (Od s c p ↔ Od t c p) := by
  have dec : ∀ x p : Int, p ∈ s → x < p → (s.filter fun z => decide (p < z)).length < (s.filter fun z => decide (x < z)).length := fun x p pm h => by
    have sub : ((s.filter fun z => decide (x < z)).filter fun z => decide (p < z)) = s.filter fun z => decide (p < z) := by
      rw [List.filter_filter]
      refine List.filter_congr fun z _ => ?_
      by_cases c : p < z
      · have : x < z := by omega
        simp [c, this]
      · simp [c]
    rw [← sub]
    refine Nat.lt_of_le_of_ne (List.length_filter_le _ _) fun e => ?_
    have := List.length_filter_eq_length_iff.mp e p (List.mem_filter.mpr ⟨pm, by simpa using h⟩)
    simp at this
  intro k
  induction k with
  | zero =>
    intro c p hc e hk
    exact absurd hk (Nat.not_lt_zero _)
  | succ k ih =>
    intro c p hc e hk
    have pm := par_mem hc p e
    have ct := (m c).mp hc
    have pt := (m p).mp pm
    have et : par t c = some p := (hp c hc) ▸ e
    have sd := hs c hc
    unfold sideI at sd
    rw [e, et] at sd
    have sd : (if flag s e' p = true then (if ixOf c s < ixOf p s then (0 : Int) else 1) else -1) = if flag t e' p = true then (if ixOf c t < ixOf p t then 0 else 1) else -1 := sd
    by_cases f1 : flag s e' p = true
    · rw [if_pos f1] at sd
      by_cases f2 : flag t e' p = true
      · rw [if_pos f2] at sd
        unfold Od
        by_cases d1 : ixOf c s < ixOf p s <;> by_cases d2 : ixOf c t < ixOf p t
        · simp [d1, d2]
        · rw [if_pos d1, if_neg d2] at sd; omega
        · rw [if_neg d1, if_pos d2] at sd; omega
        · simp [d1, d2]
      · rw [if_neg f2] at sd
        split at sd <;> omega
    · rw [if_neg f1] at sd
      have f2 : ¬ flag t e' p = true := fun f2 => by
        rw [if_pos f2] at sd
        split at sd <;> omega
      have il := par_of_in ns hc e
      have nc : ixOf c s ≠ ixOf p s := ix_ne pm hc il.2.1
      have ll : lo s p < hi s p := by
        have := il.2.2
        have := lo_le_ix s p
        have := ix_le_hi s p
        omega
      obtain ⟨g, hg, gm⟩ := kids_ne pm ll
      have hgt : gcO t p = some g := by rw [← gc_same ns nt m hp pm]; exact hg
      have sn := hn p pm (by simpa using f1) ll
      unfold sns at sn
      rw [hg, hgt] at sn
      have sn : (decide (ixOf g s < ixOf p s) != ahO s p (par s p)) = (decide (ixOf g t < ixOf p t) != ahO t p (par t p)) := sn
      have ah : ahO s p (par s p) = ahO t p (par t p) := by
        rw [← hp p pm]
        cases hq : par s p with
        | none => rfl
        | some q =>
          have lt := (par_at ns pm hq).1
          have qm := par_mem pm q hq
          have := dec p q qm lt
          have w := ih p q pm hq (by omega)
          show decide (ixOf p s < ixOf q s) = decide (ixOf p t < ixOf q t)
          exact decide_eq_decide.mpr w
      rw [ah] at sn
      have og : Od s g p ↔ Od t g p := by
        unfold Od
        cases h1 : decide (ixOf g s < ixOf p s) <;> cases h2 : decide (ixOf g t < ixOf p t) <;> cases h3 : ahO t p (par t p) <;> rw [h1, h2, h3] at sn <;> simp at sn <;> simp at h1 h2 <;> omega
      by_cases cg : c = g
      · rw [cg]; exact og
      · have gp := gc_par ns pm hg
        rw [kids_apart ns hc gm cg e gp, kids_apart nt ct ((m g).mp gm) cg et (gc_par nt pt hgt), og]

/-- a row is told by its stones' parents, the sides beneath records, and the senses -/
theorem row_det {s t : List Int} {e : Int} (ns : s.Nodup) (nt : t.Nodup) (m : ∀ x, x ∈ s ↔ x ∈ t) (hp : ∀ x ∈ s, par s x = par t x) (hs : ∀ x ∈ s, sideI s e x = sideI t e x) (hn : ∀ x ∈ s, flag s e x = false → lo s x < hi s x → sns s x = sns t x) : s = t :=
  eq_of_od ns nt m fun x y hx hy n => od_det ns nt m hp (fun c p hc hcp => kid_det ns nt m hp hs hn _ c p hc hcp (Nat.lt_succ_self _)) _ x y hx hy n (Nat.le_refl _)

/-! a row put together -/

def joinL (A : List Int) (t : Int) (B : List Int) : List Int := A ++ t :: B

structure JOk (A : List Int) (t : Int) (B : List Int) : Prop where
  nd : (A ++ B).Nodup
  up : ∀ x ∈ A ++ B, x < t
section
variable {A B : List Int} {t : Int}

theorem j_len : (joinL A t B).length = A.length + 1 + B.length := by unfold joinL; rw [List.length_append, List.length_cons]; omega

theorem j_A {k : Nat} (h : k < A.length) : (joinL A t B).getD k 0 = A.getD k 0 := by
  unfold joinL
  rw [List.getD_eq_getElem?_getD, List.getD_eq_getElem?_getD, List.getElem?_append_left h]

theorem j_t : (joinL A t B).getD A.length 0 = t := by
  unfold joinL
  rw [List.getD_eq_getElem?_getD, List.getElem?_append_right (Nat.le_refl _)]
  simp

theorem j_B (k : Nat) : (joinL A t B).getD (A.length + 1 + k) 0 = B.getD k 0 := by
  unfold joinL
  rw [List.getD_eq_getElem?_getD, List.getD_eq_getElem?_getD, List.getElem?_append_right (by omega), show A.length + 1 + k - A.length = k + 1 by omega, List.getElem?_cons_succ]

theorem JOk.nA (j : JOk A t B) : A.Nodup := (List.nodup_append.mp j.nd).1

theorem JOk.nB (j : JOk A t B) : B.Nodup := (List.nodup_append.mp j.nd).2.1

theorem JOk.nS (j : JOk A t B) : (joinL A t B).Nodup := by
  have p : (joinL A t B).Perm (t :: (A ++ B)) := List.perm_middle
  rw [p.nodup_iff, List.nodup_cons]
  exact ⟨fun z => by have := j.up t z; omega, j.nd⟩

theorem j_mem {x : Int} : x ∈ joinL A t B ↔ x ∈ A ∨ x = t ∨ x ∈ B := by unfold joinL; simp

theorem getD_lt {s : List Int} {k : Nat} (h : k < s.length) : s.getD k 0 ∈ s := by
  rw [List.getD_eq_getElem?_getD, List.getElem?_eq_getElem h]
  exact List.getElem_mem h

theorem j_left {x : Int} (j : JOk A t B) (hx : x ∈ A) : ixOf x (joinL A t B) = ixOf x A ∧ lo (joinL A t B) x = lo A x ∧ hi (joinL A t B) x = hi A x := by
  have a := sp_lo j.nA hx
  have b := sp_hi j.nA hx
  have p := ixOf_lt hx
  have hp : ixOf x A < (joinL A t B).length := by rw [j_len]; omega
  have e : (joinL A t B).getD (ixOf x A) 0 = x := by rw [j_A p]; exact ix_at hx
  have a2 : SpA ((joinL A t B).getD · 0) (ixOf x A) (lo A x) := by
    obtain ⟨a1, a2, a3⟩ := a
    refine ⟨a1, fun k h1 h2 => ?_, fun h => ?_⟩
    · show (joinL A t B).getD k 0 < (joinL A t B).getD (ixOf x A) 0
      rw [j_A (by omega), j_A p]; exact a2 k h1 h2
    · show (joinL A t B).getD (ixOf x A) 0 < (joinL A t B).getD (lo A x - 1) 0
      rw [j_A p, j_A (k := lo A x - 1) (by omega)]; exact a3 h
  have b2 : SpB ((joinL A t B).getD · 0) (joinL A t B).length (ixOf x A) (hi A x) := by
    obtain ⟨b1, b0, b2, b3⟩ := b
    refine ⟨b1, by rw [j_len]; omega, fun k h1 h2 => ?_, fun h => ?_⟩
    · show (joinL A t B).getD k 0 < (joinL A t B).getD (ixOf x A) 0
      rw [j_A (by omega), j_A p]; exact b2 k h1 h2
    · show (joinL A t B).getD (ixOf x A) 0 < (joinL A t B).getD (hi A x + 1) 0
      by_cases c : hi A x + 1 < A.length
      · rw [j_A c, j_A p]; exact b3 c
      · rw [show hi A x + 1 = A.length by omega, j_t, e]
        exact j.up x (List.mem_append_left _ hx)
  refine ⟨?_, lo_of j.nS hp e a2, hi_of j.nS hp e b2⟩
  rw [List.getD_eq_getElem?_getD, List.getElem?_eq_getElem hp] at e
  have e : (joinL A t B)[ixOf x A] = x := e
  have := ix_inj j.nS hp
  rwa [e] at this

theorem j_right {x : Int} (j : JOk A t B) (hx : x ∈ B) : ixOf x (joinL A t B) = A.length + 1 + ixOf x B ∧ lo (joinL A t B) x = A.length + 1 + lo B x ∧ hi (joinL A t B) x = A.length + 1 + hi B x := by
  have a := sp_lo j.nB hx
  have b := sp_hi j.nB hx
  have p := ixOf_lt hx
  have hp : A.length + 1 + ixOf x B < (joinL A t B).length := by rw [j_len]; omega
  have e : (joinL A t B).getD (A.length + 1 + ixOf x B) 0 = x := by rw [j_B]; exact ix_at hx
  have sh : ∀ k, A.length + 1 ≤ k → (joinL A t B).getD k 0 = B.getD (k - (A.length + 1)) 0 := fun k h => by
    have := j_B (A := A) (t := t) (B := B) (k - (A.length + 1))
    rwa [show A.length + 1 + (k - (A.length + 1)) = k by omega] at this
  have a2 : SpA ((joinL A t B).getD · 0) (A.length + 1 + ixOf x B) (A.length + 1 + lo B x) := by
    obtain ⟨a1, a2, a3⟩ := a
    refine ⟨by omega, fun k h1 h2 => ?_, fun h => ?_⟩
    · show (joinL A t B).getD k 0 < (joinL A t B).getD (A.length + 1 + ixOf x B) 0
      rw [sh k (by omega), j_B]; exact a2 _ (by omega) (by omega)
    · show (joinL A t B).getD (A.length + 1 + ixOf x B) 0 < (joinL A t B).getD (A.length + 1 + lo B x - 1) 0
      by_cases c : 0 < lo B x
      · rw [j_B, sh (A.length + 1 + lo B x - 1) (by omega), show A.length + 1 + lo B x - 1 - (A.length + 1) = lo B x - 1 by omega]; exact a3 c
      · rw [show A.length + 1 + lo B x - 1 = A.length by omega, j_t, e]
        exact j.up x (List.mem_append_right _ hx)
  have b2 : SpB ((joinL A t B).getD · 0) (joinL A t B).length (A.length + 1 + ixOf x B) (A.length + 1 + hi B x) := by
    obtain ⟨b1, b0, b2, b3⟩ := b
    refine ⟨by omega, by rw [j_len]; omega, fun k h1 h2 => ?_, fun h => ?_⟩
    · show (joinL A t B).getD k 0 < (joinL A t B).getD (A.length + 1 + ixOf x B) 0
      rw [sh k (by omega), j_B]; exact b2 _ (by omega) (by omega)
    · show (joinL A t B).getD (A.length + 1 + ixOf x B) 0 < (joinL A t B).getD (A.length + 1 + hi B x + 1) 0
      rw [j_len] at h
      rw [j_B, sh (A.length + 1 + hi B x + 1) (by omega), show A.length + 1 + hi B x + 1 - (A.length + 1) = hi B x + 1 by omega]
      exact b3 (by omega)
  refine ⟨?_, lo_of j.nS hp e a2, hi_of j.nS hp e b2⟩
  rw [List.getD_eq_getElem?_getD, List.getElem?_eq_getElem hp] at e
  have e : (joinL A t B)[A.length + 1 + ixOf x B] = x := e
  have := ix_inj j.nS hp
  rwa [e] at this

theorem j_top (j : JOk A t B) : ixOf t (joinL A t B) = A.length ∧ lo (joinL A t B) t = 0 ∧ hi (joinL A t B) t = A.length + B.length := by
  have hp : A.length < (joinL A t B).length := by rw [j_len]; omega
  have e : (joinL A t B).getD A.length 0 = t := j_t
  have le : ∀ k, k < (joinL A t B).length → k ≠ A.length → (joinL A t B).getD k 0 < t := fun k hk n => by
    rcases Nat.lt_or_gt_of_ne n with h | h
    · rw [j_A h]; exact j.up _ (List.mem_append_left _ (getD_lt h))
    · have := j_B (A := A) (t := t) (B := B) (k - (A.length + 1))
      rw [show A.length + 1 + (k - (A.length + 1)) = k by omega] at this
      rw [this]
      rw [j_len] at hk
      exact j.up _ (List.mem_append_right _ (getD_lt (by omega)))
  have a2 : SpA ((joinL A t B).getD · 0) A.length 0 := ⟨Nat.zero_le _, fun k _ h => by
    show (joinL A t B).getD k 0 < (joinL A t B).getD A.length 0
    rw [e]; exact le k (by omega) (by omega), fun h => absurd h (Nat.lt_irrefl 0)⟩
  have b2 : SpB ((joinL A t B).getD · 0) (joinL A t B).length A.length (A.length + B.length) := ⟨by omega, by rw [j_len]; omega, fun k h1 h2 => by
    show (joinL A t B).getD k 0 < (joinL A t B).getD A.length 0
    rw [e]; exact le k (by rw [j_len]; omega) (by omega), fun h => by rw [j_len] at h; omega⟩
  refine ⟨?_, lo_of j.nS hp e a2, hi_of j.nS hp e b2⟩
  rw [List.getD_eq_getElem?_getD, List.getElem?_eq_getElem hp] at e
  have e : (joinL A t B)[A.length] = t := e
  have := ix_inj j.nS hp
  rwa [e] at this

/-- the ends of the whole: b in 2, 3; d in 1, 3 -/
def jE (b d : Int) : Int := (if b = 3 then 1 else 0) + 2 * (if d = 3 then 1 else 0)

theorem j_flagA {x b d : Int} (j : JOk A t B) (hx : x ∈ A) (hb : b = 3 ∨ b = 2) (hd : d = 3 ∨ d = 1) : flag (joinL A t B) (jE b d) x = flag A b x := by
  obtain ⟨_, e1, e2⟩ := j_left j hx
  have := hi_lt hx
  unfold flag opA opB
  rw [e1, e2, j_len, Bool.eq_iff_iff]
  simp only [Bool.or_eq_true, decide_eq_true_eq]
  rcases hb with rfl | rfl <;> rcases hd with rfl | rfl <;> simp [jE] <;> omega

theorem j_flagB {x b d : Int} (j : JOk A t B) (hx : x ∈ B) (hb : b = 3 ∨ b = 2) (hd : d = 3 ∨ d = 1) : flag (joinL A t B) (jE b d) x = flag B d x := by
  obtain ⟨_, e1, e2⟩ := j_right j hx
  have := hi_lt hx
  unfold flag opA opB
  rw [e1, e2, j_len, Bool.eq_iff_iff]
  simp only [Bool.or_eq_true, decide_eq_true_eq]
  rcases hb with rfl | rfl <;> rcases hd with rfl | rfl <;> simp [jE] <;> omega

theorem j_flagT {b d : Int} (j : JOk A t B) (hb : b = 3 ∨ b = 2) (hd : d = 3 ∨ d = 1) : flag (joinL A t B) (jE b d) t = !decide (jE b d = 3) := by
  obtain ⟨_, e1, e2⟩ := j_top j
  unfold flag opA opB
  rw [e1, e2, j_len, Bool.eq_iff_iff]
  simp only [Bool.or_eq_true, decide_eq_true_eq, Bool.not_eq_true', decide_eq_false_iff_not]
  rcases hb with rfl | rfl <;> rcases hd with rfl | rfl <;> simp [jE] <;> omega

theorem j_headA {x b d : Int} (j : JOk A t B) (hx : x ∈ A) (hb : b = 3 ∨ b = 2) (hd : d = 3 ∨ d = 1) : head (joinL A t B) (jE b d) x = head A b x := by
  obtain ⟨_, e1, e2⟩ := j_left j hx
  unfold head
  rw [j_flagA j hx hb hd, e1, e2]

theorem j_headB {x b d : Int} (j : JOk A t B) (hx : x ∈ B) (hb : b = 3 ∨ b = 2) (hd : d = 3 ∨ d = 1) : head (joinL A t B) (jE b d) x = head B d x := by
  obtain ⟨_, e1, e2⟩ := j_right j hx
  unfold head
  rw [j_flagB j hx hb hd, e1, e2]
  congr 1
  rw [decide_eq_decide]
  omega

theorem j_headT {b d : Int} (j : JOk A t B) (hA : A ≠ []) (hb : b = 3 ∨ b = 2) (hd : d = 3 ∨ d = 1) : head (joinL A t B) (jE b d) t = decide (jE b d = 3) := by
  obtain ⟨_, e1, e2⟩ := j_top j
  have : 0 < A.length := List.length_pos_iff.mpr hA
  unfold head
  rw [j_flagT j hb hd, e1, e2, Bool.not_not]
  have : (2 : Int) ≤ ((A.length + B.length : Nat) : Int) - ((0 : Nat) : Int) + 1 := by omega
  simp [this]
  intro h
  omega

theorem j_lenA {x : Int} (j : JOk A t B) (hx : x ∈ A) : len (joinL A t B) x = len A x := by
  obtain ⟨_, e1, e2⟩ := j_left j hx
  unfold len
  rw [e1, e2]

theorem j_lenB {x : Int} (j : JOk A t B) (hx : x ∈ B) : len (joinL A t B) x = len B x := by
  obtain ⟨_, e1, e2⟩ := j_right j hx
  unfold len
  rw [e1, e2]
  omega
end

theorem heads_sorted (s : List Int) (e : Int) : (heads s e).Pairwise (· ≤ ·) := List.Pairwise.filter _ (sortI_sorted s)

theorem heads_iff {s : List Int} {e x : Int} : x ∈ heads s e ↔ x ∈ s ∧ head s e x = true := by
  unfold heads
  rw [List.mem_filter, (sortI_perm s).mem_iff]

theorem heads_nd {s : List Int} {e : Int} (nd : s.Nodup) : (heads s e).Nodup := List.Pairwise.filter _ ((sortI_perm s).nodup_iff.mpr nd)

/-- heads of the whole -/
theorem j_heads {A B : List Int} {t b d : Int} (j : JOk A t B) (hA : A ≠ []) (hb : b = 3 ∨ b = 2) (hd : d = 3 ∨ d = 1) : heads (joinL A t B) (jE b d) = sortI (heads A b ++ heads B d ++ if jE b d = 3 then [t] else []) := by
  refine sortI_uniq ?_ (heads_sorted _ _)
  have nt : ∀ x, x ∈ A ++ B → x ≠ t := fun x hx z => by have := j.up x hx; omega
  have dj : ∀ x, x ∈ A → x ∈ B → False := fun x h1 h2 => (List.nodup_append.mp j.nd).2.2 x h1 x h2 rfl
  refine (List.perm_ext_iff_of_nodup (heads_nd j.nS) ?_).mpr fun x => ?_
  · rw [List.nodup_append, List.nodup_append]
    refine ⟨⟨heads_nd j.nA, heads_nd j.nB, fun x h1 y h2 z => by subst z; exact dj x (heads_mem h1) (heads_mem h2)⟩, by split <;> simp, fun x h1 y h2 z => ?_⟩
    subst z
    split at h2
    · cases List.mem_singleton.mp h2
      rcases List.mem_append.mp h1 with h | h
      · exact nt _ (List.mem_append_left _ (heads_mem h)) rfl
      · exact nt _ (List.mem_append_right _ (heads_mem h)) rfl
    · cases h2
  · rw [heads_iff, List.mem_append, List.mem_append, heads_iff, heads_iff, j_mem]
    constructor
    · rintro ⟨h | h | h, k⟩
      · rw [j_headA j h hb hd] at k; exact .inl (.inl ⟨h, k⟩)
      · subst h
        rw [j_headT j hA hb hd] at k
        rw [if_pos (by simpa using k)]
        exact .inr (by simp)
      · rw [j_headB j h hb hd] at k; exact .inl (.inr ⟨h, k⟩)
    · rintro ((⟨h, k⟩ | ⟨h, k⟩) | h)
      · exact ⟨.inl h, by rw [j_headA j h hb hd]; exact k⟩
      · exact ⟨.inr (.inr h), by rw [j_headB j h hb hd]; exact k⟩
      · split at h
        · rename_i c
          cases List.mem_singleton.mp h
          exact ⟨.inr (.inl rfl), by rw [j_headT j hA hb hd, c]; rfl⟩
        · cases h

theorem free_iff {s : List Int} {e x : Int} {r : Option (List Int)} : x ∈ free s e r ↔ x ∈ heads s e ∧ letsB r (len s x) = true := by unfold free; rw [List.mem_filter]

theorem free_nd {s : List Int} {e : Int} {r : Option (List Int)} (nd : s.Nodup) : (free s e r).Nodup := List.Pairwise.filter _ (heads_nd nd)

theorem j_free {A B : List Int} {t b d : Int} {r : Option (List Int)} (j : JOk A t B) (hA : A ≠ []) (hb : b = 3 ∨ b = 2) (hd : d = 3 ∨ d = 1) :
    (free (joinL A t B) (jE b d) r).length = (free A b r).length + (free B d r).length + if t ∈ free (joinL A t B) (jE b d) r then 1 else 0 := by
  have nt : ∀ x, x ∈ A ++ B → x ≠ t := fun x hx z => by have := j.up x hx; omega
  have dj : ∀ x, x ∈ A → x ∈ B → False := fun x h1 h2 => (List.nodup_append.mp j.nd).2.2 x h1 x h2 rfl
  have fA : ∀ x, x ∈ A → (x ∈ free (joinL A t B) (jE b d) r ↔ x ∈ free A b r) := fun x hx => by
    rw [free_iff, free_iff, heads_iff, heads_iff, j_headA j hx hb hd, j_lenA j hx, j_mem]
    simp [hx]
  have fB : ∀ x, x ∈ B → (x ∈ free (joinL A t B) (jE b d) r ↔ x ∈ free B d r) := fun x hx => by
    rw [free_iff, free_iff, heads_iff, heads_iff, j_headB j hx hb hd, j_lenB j hx, j_mem]
    simp [hx]
  have pm : (free (joinL A t B) (jE b d) r).Perm (free A b r ++ free B d r ++ if t ∈ free (joinL A t B) (jE b d) r then [t] else []) := by
    refine (List.perm_ext_iff_of_nodup (free_nd j.nS) ?_).mpr fun x => ?_
    · rw [List.nodup_append, List.nodup_append]
      refine ⟨⟨free_nd j.nA, free_nd j.nB, fun x h1 y h2 z => by subst z; exact dj x (free_mem h1) (free_mem h2)⟩, by split <;> simp, fun x h1 y h2 z => ?_⟩
      subst z
      split at h2
      · cases List.mem_singleton.mp h2
        rcases List.mem_append.mp h1 with h | h
        · exact nt _ (List.mem_append_left _ (free_mem h)) rfl
        · exact nt _ (List.mem_append_right _ (free_mem h)) rfl
      · cases h2
    · rw [List.mem_append, List.mem_append]
      constructor
      · intro h
        rcases j_mem.mp (free_mem h) with k | k | k
        · exact .inl (.inl ((fA x k).mp h))
        · subst k; rw [if_pos h]; exact .inr (by simp)
        · exact .inl (.inr ((fB x k).mp h))
      · rintro ((h | h) | h)
        · exact (fA x (free_mem h)).mpr h
        · exact (fB x (free_mem h)).mpr h
        · split at h
          · rename_i c; cases List.mem_singleton.mp h; exact c
          · cases h
  rw [pm.length_eq, List.length_append, List.length_append]
  split <;> simp

/-- greatest children, by the lots alone -/
theorem gc_ext {s u : List Int} {x y : Int} (ns : s.Nodup) (nu : u.Nodup) (hx : x ∈ s) (hy : y ∈ u) (h : ∀ z, inLot s x z ↔ inLot u y z) : gcO s x = gcO u y := by
  cases h1 : gcO s x with
  | none =>
    cases h2 : gcO u y with
    | none => rfl
    | some c => exact absurd ((h c).mpr (gc_some nu hy h2).1) (gc_none ns hx h1)
  | some c =>
    obtain ⟨a1, a2⟩ := gc_some ns hx h1
    cases h2 : gcO u y with
    | none => exact absurd ((h c).mp a1) (gc_none nu hy h2)
    | some d =>
      obtain ⟨b1, b2⟩ := gc_some nu hy h2
      have := a2 d ((h d).mpr b1)
      have := b2 c ((h c).mp a1)
      congr 1
      omega
section
variable {A B : List Int} {t x : Int}

theorem j_lotA (j : JOk A t B) (hx : x ∈ A) (z : Int) : inLot (joinL A t B) x z ↔ inLot A x z := by
  obtain ⟨_, e1, e2⟩ := j_left j hx
  have g := hi_lt hx
  unfold inLot
  rw [e1, e2, j_mem]
  constructor
  · rintro ⟨h | h | h, n, h1, h2⟩
    · rw [(j_left j h).1] at h1 h2; exact ⟨h, n, h1, h2⟩
    · subst h; rw [(j_top j).1] at h1 h2; omega
    · rw [(j_right j h).1] at h1 h2; omega
  · rintro ⟨h, n, h1, h2⟩
    rw [(j_left j h).1]
    exact ⟨.inl h, n, h1, h2⟩

theorem j_lotB (j : JOk A t B) (hx : x ∈ B) (z : Int) : inLot (joinL A t B) x z ↔ inLot B x z := by
  obtain ⟨_, e1, e2⟩ := j_right j hx
  unfold inLot
  rw [e1, e2, j_mem]
  constructor
  · rintro ⟨h | h | h, n, h1, h2⟩
    · rw [(j_left j h).1] at h1 h2; have := ixOf_lt h; omega
    · subst h; rw [(j_top j).1] at h1 h2; omega
    · rw [(j_right j h).1] at h1 h2; exact ⟨h, n, by omega, by omega⟩
  · rintro ⟨h, n, h1, h2⟩
    rw [(j_right j h).1]
    exact ⟨.inr (.inr h), n, by omega, by omega⟩

theorem clA_some {s : List Int} (h : 0 < lo s x) (hx : x ∈ s) : ∃ a ∈ s, clA (s.getD · 0) (lo s x) = some a := by
  have := lo_lt hx
  exact ⟨s.getD (lo s x - 1) 0, getD_lt (by omega), if_pos h⟩

theorem clB_some {s : List Int} (h : hi s x + 1 < s.length) : ∃ a ∈ s, clB (s.getD · 0) s.length (hi s x) = some a := ⟨s.getD (hi s x + 1) 0, getD_lt h, if_pos h⟩

theorem j_parA (j : JOk A t B) (hx : x ∈ A) : par (joinL A t B) x = match par A x with | some p => some p | none => some t := by
  obtain ⟨_, e1, e2⟩ := j_left j hx
  have g := hi_lt hx
  have g0 := lo_lt hx
  have q1 : clA ((joinL A t B).getD · 0) (lo A x) = clA (A.getD · 0) (lo A x) := by
    unfold clA
    by_cases c : 0 < lo A x
    · rw [if_pos c, if_pos c]; congr 1; exact j_A (by omega)
    · rw [if_neg c, if_neg c]
  rw [par_eq, par_eq, e1, e2, q1]
  by_cases c : hi A x + 1 < A.length
  · have q2 : clB ((joinL A t B).getD · 0) (joinL A t B).length (hi A x) = clB (A.getD · 0) A.length (hi A x) := by
      unfold clB
      rw [if_pos (by rw [j_len]; omega), if_pos c]; congr 1; exact j_A c
    rw [q2]
    obtain ⟨a, _, ha⟩ := clB_some (x := x) c
    rw [ha]
    cases clA (A.getD · 0) (lo A x) <;> rfl
  · have q2 : clB ((joinL A t B).getD · 0) (joinL A t B).length (hi A x) = some t := by
      unfold clB
      rw [if_pos (by rw [j_len]; omega)]
      congr 1
      rw [show hi A x + 1 = A.length by omega]
      exact j_t
    have q3 : clB (A.getD · 0) A.length (hi A x) = none := if_neg c
    rw [q2, q3]
    by_cases d : 0 < lo A x
    · obtain ⟨a, am, ha⟩ := clA_some d hx
      rw [ha]
      exact mnP_left fun c hc => by cases hc; have := j.up a (List.mem_append_left _ am); omega
    · have : clA (A.getD · 0) (lo A x) = none := if_neg d
      rw [this]
      rfl

theorem j_parB (j : JOk A t B) (hx : x ∈ B) : par (joinL A t B) x = match par B x with | some p => some p | none => some t := by
  obtain ⟨_, e1, e2⟩ := j_right j hx
  have g := hi_lt hx
  have g0 := lo_lt hx
  have q1 : clB ((joinL A t B).getD · 0) (joinL A t B).length (A.length + 1 + hi B x) = clB (B.getD · 0) B.length (hi B x) := by
    unfold clB
    rw [j_len]
    by_cases c : hi B x + 1 < B.length
    · rw [if_pos (by omega), if_pos c]; congr 1; exact j_B (hi B x + 1)
    · rw [if_neg (by omega), if_neg c]
  rw [par_eq, par_eq, e1, e2, q1]
  by_cases c : 0 < lo B x
  · have q2 : clA ((joinL A t B).getD · 0) (A.length + 1 + lo B x) = clA (B.getD · 0) (lo B x) := by
      unfold clA
      rw [if_pos (by omega), if_pos c]
      congr 1
      rw [show A.length + 1 + lo B x - 1 = A.length + 1 + (lo B x - 1) by omega]
      exact j_B _
    rw [q2]
    obtain ⟨a, _, ha⟩ := clA_some c hx
    rw [ha]
    cases clB (B.getD · 0) B.length (hi B x) <;> rfl
  · have q2 : clA ((joinL A t B).getD · 0) (A.length + 1 + lo B x) = some t := by
      unfold clA
      rw [if_pos (by omega)]
      congr 1
      rw [show A.length + 1 + lo B x - 1 = A.length by omega]
      exact j_t
    have q3 : clA (B.getD · 0) (lo B x) = none := if_neg c
    rw [q2, q3]
    by_cases d : hi B x + 1 < B.length
    · obtain ⟨a, am, ha⟩ := clB_some (x := x) d
      rw [ha, mnP_comm]
      exact mnP_left fun c hc => by cases hc; have := j.up a (List.mem_append_right _ am); omega
    · have : clB (B.getD · 0) B.length (hi B x) = none := if_neg d
      rw [this]
      rfl

theorem j_snsA (j : JOk A t B) (hx : x ∈ A) (h : lo A x < hi A x) : sns (joinL A t B) x = sns A x := by
  have hs : x ∈ joinL A t B := j_mem.mpr (.inl hx)
  have e := gc_ext j.nS j.nA hs hx (j_lotA j hx)
  obtain ⟨c, hc, cm⟩ := kids_ne hx h
  unfold sns
  rw [e, hc, j_parA j hx]
  simp only
  rw [(j_left j hx).1, (j_left j cm).1]
  congr 1
  cases hp : par A x with
  | none =>
    show decide (ixOf x (joinL A t B) < ixOf t (joinL A t B)) = true
    rw [(j_left j hx).1, (j_top j).1]
    have := ixOf_lt hx
    simp; omega
  | some p =>
    show decide (ixOf x (joinL A t B) < ixOf p (joinL A t B)) = decide (ixOf x A < ixOf p A)
    rw [(j_left j hx).1, (j_left j (par_mem hx p hp)).1]

theorem j_snsB (j : JOk A t B) (hx : x ∈ B) (h : lo B x < hi B x) : sns (joinL A t B) x = (sns B x != (par B x).isNone) := by
  have hs : x ∈ joinL A t B := j_mem.mpr (.inr (.inr hx))
  have e := gc_ext j.nS j.nB hs hx (j_lotB j hx)
  obtain ⟨c, hc, cm⟩ := kids_ne hx h
  unfold sns
  rw [e, hc, j_parB j hx]
  simp only
  rw [(j_right j hx).1, (j_right j cm).1]
  have o1 : decide (A.length + 1 + ixOf c B < A.length + 1 + ixOf x B) = decide (ixOf c B < ixOf x B) := by rw [decide_eq_decide]; omega
  rw [o1]
  cases hp : par B x with
  | none =>
    have : ahO (joinL A t B) x (some t) = false := by
      show decide (ixOf x (joinL A t B) < ixOf t (joinL A t B)) = false
      rw [(j_right j hx).1, (j_top j).1]
      simp; omega
    show (_ != ahO (joinL A t B) x (some t)) = ((_ != true) != true)
    rw [this]
    cases decide (ixOf c B < ixOf x B) <;> rfl
  | some p =>
    have : ahO (joinL A t B) x (some p) = decide (ixOf x B < ixOf p B) := by
      show decide (ixOf x (joinL A t B) < ixOf p (joinL A t B)) = _
      rw [(j_right j hx).1, (j_right j (par_mem hx p hp)).1, decide_eq_decide]
      omega
    show (_ != ahO (joinL A t B) x (some p)) = ((_ != decide (ixOf x B < ixOf p B)) != false)
    rw [this]
    cases decide (ixOf c B < ixOf x B) <;> cases decide (ixOf x B < ixOf p B) <;> rfl

theorem par_none {s : List Int} (nd : s.Nodup) (hx : x ∈ s) : (par s x).isNone = decide (x = mx s) := by
  have ne : s ≠ [] := List.ne_nil_of_mem hx
  obtain ⟨mm, ml⟩ := mx_spec ne
  by_cases c : x = mx s
  · rw [decide_eq_true c]
    cases hp : par s x with
    | none => rfl
    | some p =>
      have := (par_at nd hx hp).1
      have := ml p (par_mem hx p hp)
      omega
  · rw [decide_eq_false c]
    have : x < mx s := by have := ml x hx; omega
    obtain ⟨p, hp⟩ := par_ex nd hx mm this
    rw [hp]
    rfl
end

end K58

namespace K58
open PySem TV
theorem eq_oI (i : Int) : dEq [.int i, .str "open"] = some (.bl false) := (d_neU (p := .int i) (q := .str "open") rfl rfl rfl (by decide +kernel) rfl).2

theorem eq_oO : dEq [opn, .str "open"] = some (.bl true) := d_eqS (nice_str _ _ (by decide +kernel : (PyData.str "open").canLay0 = true))

theorem eq_oW : dEq [wal, .str "open"] = some (.bl false) := (d_neU (p := .str "wall") (q := .str "open") rfl rfl (by decide +kernel) (by decide +kernel) (by decide +kernel)).2

theorem eq_openA (s : List Int) (e : Int) (i : Nat) : dEq [aD s e i, .str "open"] = some (.bl (opA e i)) := by
  unfold aD
  by_cases c : 0 < i
  · rw [if_pos c, eq_oI]
    have : opA e i = false := by unfold opA; simp; omega
    rw [this]
  · by_cases d : e = 1 ∨ e = 3
    · rw [if_neg c, if_pos d, eq_oW]
      have : opA e i = false := by unfold opA; simp; omega
      rw [this]
    · rw [if_neg c, if_neg d, eq_oO]
      have : opA e i = true := by unfold opA; simp; omega
      rw [this]

theorem eq_openB (s : List Int) (e : Int) (k : Nat) : dEq [bD s e k, .str "open"] = some (.bl (opB s e k)) := by
  unfold bD
  by_cases c : k + 1 < s.length
  · rw [if_pos c, eq_oI]
    have : opB s e k = false := by unfold opB; simp; omega
    rw [this]
  · by_cases d : 2 ≤ e
    · rw [if_neg c, if_pos d, eq_oW]
      have : opB s e k = false := by unfold opB; simp; omega
      rw [this]
    · rw [if_neg c, if_neg d, eq_oO]
      have : opB s e k = true := by unfold opB; simp; omega
      rw [this]

def lotE (s : List Int) (e x : Int) : Int := (if opA e (lo s x) = true then 0 else 1) + (if opB s e (hi s x) = true then 0 else 2)

theorem cut_okS {s : List Int} {x : Int} (os : okS s) (hx : x ∈ s) : okS (cut s (lo s x) (hi s x + 1)) := by
  have g := hi_lt hx
  have g2 := lo_hi (s := s) (x := x)
  have ln := cut_len s (lo s x) (hi s x + 1) (by omega) (by omega)
  obtain ⟨a, b, c, d⟩ := os
  refine ⟨?_, by omega, by omega, fun y hy => d y (cut_mem hy)⟩
  unfold cut
  exact (a.sublist (List.drop_sublist _ _)).sublist (List.take_sublist _ _)

theorem j_okS {A B : List Int} {t : Int} (j : JOk A t B) (oA : okS A) (oB : okS B) (hl : A.length + B.length ≤ 39) (h1 : t < 1000000000000000) : okS (joinL A t B) := by
  refine ⟨j.nS, by rw [j_len]; omega, by rw [j_len]; omega, fun x hx => ?_⟩
  rcases j_mem.mp hx with h | h | h
  · exact oA.2.2.2 x h
  · subst h
    obtain ⟨a, ha⟩ := List.exists_mem_of_ne_nil _ oA.ne
    have := oA.2.2.2 a ha
    have := j.up a (List.mem_append_left _ ha)
    omega
  · exact oB.2.2.2 x h

theorem add_tupI (a b : List Int) (h : a.length + b.length ≤ 1000) : dAdd [.tup (a.map .int), .tup (b.map .int)] = some (.tup ((a ++ b).map .int)) := by
  have : a.length + b.length ≤ 16777216 := by omega
  simp [dAdd, sizeLine_eq, this]

theorem add_lstI (a b : List Int) (h : a.length + b.length ≤ 1000) : dAdd [.lst (a.map .int), .lst (b.map .int)] = some (.lst ((a ++ b).map .int)) := by
  have : a.length + b.length ≤ 16777216 := by omega
  simp [dAdd, sizeLine_eq, this]

theorem nice_rD (n : Nat) (r : Option (List Int)) : D.nice (n + 1) (rD r) = true := by
  cases r with
  | none => rfl
  | some l => exact nices_ints (n := n) l

theorem sort_lst (s : List Int) : dSort [.lst (s.map .int)] = some (.lst ((sortI s).map .int)) := by
  simp [dSort, dOr, dSortL, dLInts, dSortT, dTInts, dInts_map]

theorem nice_row3 (s : List Int) (e : Int) (r : Option (List Int)) : D.nice 8 (.tup [.tup (s.map .int), .int e, rD r]) = true := nices_mem (n := 7) (l := [.tup (s.map .int), .int e, rD r]) fun d hd => by
  simp only [List.mem_cons, List.not_mem_nil, or_false] at hd
  rcases hd with rfl | rfl | rfl
  · exact nices_ints (n := 6) _
  · exact nice_int _ _
  · exact nice_rD 6 r

theorem d_neI (x y : Int) : dNe [.int x, .int y] = some (.bl (!decide (x = y))) := by
  by_cases c : x = y
  · subst c
    rw [decide_eq_true rfl]
    exact d_neS (nice_int 8 x)
  · rw [decide_eq_false c]
    have : PyData.eqv (.int x) (.int y) = false := by
      show decide (x = y) = false
      exact decide_eq_false c
    exact (d_neU (p := .int x) (q := .int y) rfl rfl rfl rfl this).1

theorem lot_mx {s : List Int} (nd : s.Nodup) (ne : s ≠ []) : lo s (mx s) = 0 ∧ hi s (mx s) + 1 = s.length := by
  obtain ⟨mm, ml⟩ := mx_spec ne
  have a := sp_lo nd mm
  have b := sp_hi nd mm
  have e := ix_at mm
  have g := lo_lt mm
  constructor
  · refine Classical.byContradiction fun c => ?_
    have z : s.getD (ixOf (mx s) s) 0 < s.getD (lo s (mx s) - 1) 0 := a.2.2 (by omega)
    rw [e] at z
    have := ml _ (getD_lt (s := s) (k := lo s (mx s) - 1) (by omega))
    omega
  · have h := hi_lt mm
    refine Classical.byContradiction fun c => ?_
    have z : s.getD (ixOf (mx s) s) 0 < s.getD (hi s (mx s) + 1) 0 := b.2.2.2 (by omega)
    rw [e] at z
    have := ml _ (getD_lt (s := s) (k := hi s (mx s) + 1) (by omega))
    omega

theorem cut_all (s : List Int) : cut s 0 s.length = s := by unfold cut; simp

theorem cut_jA (A B : List Int) (t : Int) : cut (joinL A t B) 0 A.length = A := by unfold cut joinL; simp

theorem cut_jB (A B : List Int) (t : Int) : cut (joinL A t B) (A.length + 1) (A.length + 1 + B.length) = B := by
  unfold cut joinL
  have : A ++ t :: B = (A ++ [t]) ++ B := by simp
  rw [this, List.drop_left' (by simp)]
  exact List.take_of_length_le (by omega)

end K58

namespace K58
open PySem TV
theorem d_lspan (s : List Int) (x : Int) (hx : x ∈ s) (hl : s.length ≤ 40) : F__law_span [some (.tup (s.map .int)), some (.int x)] = .ok (.tup [.int (lo s x), .int (hi s x)], [some (.tup (s.map .int)), some (.int x)]) := by
  have hi0 := ixOf_lt hx
  have E1 : ∀ (last : Int) (i : Nat), i ≤ s.length → mWhile t__law_span_1 b__law_span_2 [some (.tup (s.map D.int)), some (.int x), some (.int (i : Nat)), some (.int last)]
      = .ok (.nx, [some (.tup (s.map D.int)), some (.int x), some (.int (dn s x i : Nat)), some (.int last)]) := fun last i h1 => by
    refine down_run (s := s) (x := x) (E := fun i => [some (.tup (s.map D.int)), some (.int x), some (.int (i : Nat)), some (.int last)]) ?_ (fun i h => ?_) (fun i => ?_) i fuel (by unfold fuel; omega) h1
    · simp [b_ok, b_stuck, b_exc, a_def, f_ok, f_exc, k_rt, k_nx, a_do, a_set, a_set2, a_drop, a_ret, a_unp, a_seq, k_seq, k_seqr, k_seqb, k_seqc, a_op, k_op, a_c, a_var, a_b, k_b, a_then, k_and1, k_and0, k_or1, k_or0, k_andV1, k_andV0, k_orV1, k_orV0, k_if1, k_if0, k_ifS1, k_ifS0, k_ifT1, k_ifT0, k_notV, k_not, a_yes, a_no, a_next, a_never, a_par, k_par, a_for, k_for, a_i1, k_i1, a_io, k_io, a_call, k_call, a_callP, k_callP, a_chain, k_chain, a_mut, k_mut, a_sto, k_sto, a_lc, k_lc, a_new, a_gN, a_gT, d_lt, d_le, d_gt, d_ge, d_intB, ev, rds, chk, pAny, pTup, pInt, takeA, wbE, permL, padE, outE, gNs, own_int, own_bl, own_str, own_non, own_tup, own_ins, own_frl, own_lst, own_dic, dTup, dLst, dAdd, dSub, dMulS, dDiv, dMod, dNeg, dInt, dAbs, dIsN, dNotN, D.isNon, dLen, dItems, dIx, dTru, D.tru, D.seq, fSetL, fAppend, sizeLine_eq, rg1, rg2, rg3, rg4, rg5, rg6, rg7, rg8, a_raise, k_raise, a_par3, k_par3, a_try, kt_ok, kt_exc, hdl, sEnd, dropN, inR, dRev, a_fz, k_fzL, k_fzF, k_fzT, a_fzS, k_fzS]
    · have c : (0 : Int) < (i : Int) + 1 := by omega
      simp [b_ok, b_stuck, b_exc, a_def, f_ok, f_exc, k_rt, k_nx, a_do, a_set, a_set2, a_drop, a_ret, a_unp, a_seq, k_seq, k_seqr, k_seqb, k_seqc, a_op, k_op, a_c, a_var, a_b, k_b, a_then, k_and1, k_and0, k_or1, k_or0, k_andV1, k_andV0, k_orV1, k_orV0, k_if1, k_if0, k_ifS1, k_ifS0, k_ifT1, k_ifT0, k_notV, k_not, a_yes, a_no, a_next, a_never, a_par, k_par, a_for, k_for, a_i1, k_i1, a_io, k_io, a_call, k_call, a_callP, k_callP, a_chain, k_chain, a_mut, k_mut, a_sto, k_sto, a_lc, k_lc, a_new, a_gN, a_gT, d_lt, d_le, d_gt, d_ge, d_intB, ev, rds, chk, pAny, pTup, pInt, takeA, wbE, permL, padE, outE, gNs, own_int, own_bl, own_str, own_non, own_tup, own_ins, own_frl, own_lst, own_dic, dTup, dLst, dAdd, dSub, dMulS, dDiv, dMod, dNeg, dInt, dAbs, dIsN, dNotN, D.isNon, dLen, dItems, dIx, dTru, D.tru, D.seq, fSetL, fAppend, sizeLine_eq, rg1, rg2, rg3, rg4, rg5, rg6, rg7, rg8, a_raise, k_raise, a_par3, k_par3, a_try, kt_ok, kt_exc, hdl, sEnd, dropN, inR, dRev, a_fz, k_fzL, k_fzF, k_fzT, a_fzS, k_fzS, atI_nat, List.getElem?_eq_getElem, h, c]
    · simp [b_ok, b_stuck, b_exc, a_def, f_ok, f_exc, k_rt, k_nx, a_do, a_set, a_set2, a_drop, a_ret, a_unp, a_seq, k_seq, k_seqr, k_seqb, k_seqc, a_op, k_op, a_c, a_var, a_b, k_b, a_then, k_and1, k_and0, k_or1, k_or0, k_andV1, k_andV0, k_orV1, k_orV0, k_if1, k_if0, k_ifS1, k_ifS0, k_ifT1, k_ifT0, k_notV, k_not, a_yes, a_no, a_next, a_never, a_par, k_par, a_for, k_for, a_i1, k_i1, a_io, k_io, a_call, k_call, a_callP, k_callP, a_chain, k_chain, a_mut, k_mut, a_sto, k_sto, a_lc, k_lc, a_new, a_gN, a_gT, d_lt, d_le, d_gt, d_ge, d_intB, ev, rds, chk, pAny, pTup, pInt, takeA, wbE, permL, padE, outE, gNs, own_int, own_bl, own_str, own_non, own_tup, own_ins, own_frl, own_lst, own_dic, dTup, dLst, dAdd, dSub, dMulS, dDiv, dMod, dNeg, dInt, dAbs, dIsN, dNotN, D.isNon, dLen, dItems, dIx, dTru, D.tru, D.seq, fSetL, fAppend, sizeLine_eq, rg1, rg2, rg3, rg4, rg5, rg6, rg7, rg8, a_raise, k_raise, a_par3, k_par3, a_try, kt_ok, kt_exc, hdl, sEnd, dropN, inR, dRev, a_fz, k_fzL, k_fzF, k_fzT, a_fzS, k_fzS]
  have E2 : ∀ (first : Int) (i : Nat), i < s.length → mWhile t__law_span_3 b__law_span_4 [some (.tup (s.map D.int)), some (.int x), some (.int first), some (.int (i : Nat))]
      = .ok (.nx, [some (.tup (s.map D.int)), some (.int x), some (.int first), some (.int (up s x s.length i : Nat))]) := fun first i h1 => by
    refine up_run (s := s) (x := x) (E := fun i => [some (.tup (s.map D.int)), some (.int x), some (.int first), some (.int (i : Nat))]) (fun i h => ?_) (fun i => ?_) s.length i fuel (by unfold fuel; omega) h1 (by omega)
    · by_cases c : i + 1 < s.length
      · have c' : (i : Int) < (s.length : Int) - 1 := by omega
        simp [b_ok, b_stuck, b_exc, a_def, f_ok, f_exc, k_rt, k_nx, a_do, a_set, a_set2, a_drop, a_ret, a_unp, a_seq, k_seq, k_seqr, k_seqb, k_seqc, a_op, k_op, a_c, a_var, a_b, k_b, a_then, k_and1, k_and0, k_or1, k_or0, k_andV1, k_andV0, k_orV1, k_orV0, k_if1, k_if0, k_ifS1, k_ifS0, k_ifT1, k_ifT0, k_notV, k_not, a_yes, a_no, a_next, a_never, a_par, k_par, a_for, k_for, a_i1, k_i1, a_io, k_io, a_call, k_call, a_callP, k_callP, a_chain, k_chain, a_mut, k_mut, a_sto, k_sto, a_lc, k_lc, a_new, a_gN, a_gT, d_lt, d_le, d_gt, d_ge, d_intB, ev, rds, chk, pAny, pTup, pInt, takeA, wbE, permL, padE, outE, gNs, own_int, own_bl, own_str, own_non, own_tup, own_ins, own_frl, own_lst, own_dic, dTup, dLst, dAdd, dSub, dMulS, dDiv, dMod, dNeg, dInt, dAbs, dIsN, dNotN, D.isNon, dLen, dItems, dIx, dTru, D.tru, D.seq, fSetL, fAppend, sizeLine_eq, rg1, rg2, rg3, rg4, rg5, rg6, rg7, rg8, a_raise, k_raise, a_par3, k_par3, a_try, kt_ok, kt_exc, hdl, sEnd, dropN, inR, dRev, a_fz, k_fzL, k_fzF, k_fzT, a_fzS, k_fzS, atI_succ, get_map c, c, c']
      · have c' : ¬ (i : Int) < (s.length : Int) - 1 := by omega
        simp [b_ok, b_stuck, b_exc, a_def, f_ok, f_exc, k_rt, k_nx, a_do, a_set, a_set2, a_drop, a_ret, a_unp, a_seq, k_seq, k_seqr, k_seqb, k_seqc, a_op, k_op, a_c, a_var, a_b, k_b, a_then, k_and1, k_and0, k_or1, k_or0, k_andV1, k_andV0, k_orV1, k_orV0, k_if1, k_if0, k_ifS1, k_ifS0, k_ifT1, k_ifT0, k_notV, k_not, a_yes, a_no, a_next, a_never, a_par, k_par, a_for, k_for, a_i1, k_i1, a_io, k_io, a_call, k_call, a_callP, k_callP, a_chain, k_chain, a_mut, k_mut, a_sto, k_sto, a_lc, k_lc, a_new, a_gN, a_gT, d_lt, d_le, d_gt, d_ge, d_intB, ev, rds, chk, pAny, pTup, pInt, takeA, wbE, permL, padE, outE, gNs, own_int, own_bl, own_str, own_non, own_tup, own_ins, own_frl, own_lst, own_dic, dTup, dLst, dAdd, dSub, dMulS, dDiv, dMod, dNeg, dInt, dAbs, dIsN, dNotN, D.isNon, dLen, dItems, dIx, dTru, D.tru, D.seq, fSetL, fAppend, sizeLine_eq, rg1, rg2, rg3, rg4, rg5, rg6, rg7, rg8, a_raise, k_raise, a_par3, k_par3, a_try, kt_ok, kt_exc, hdl, sEnd, dropN, inR, dRev, a_fz, k_fzL, k_fzF, k_fzT, a_fzS, k_fzS, c, c']
    · simp [b_ok, b_stuck, b_exc, a_def, f_ok, f_exc, k_rt, k_nx, a_do, a_set, a_set2, a_drop, a_ret, a_unp, a_seq, k_seq, k_seqr, k_seqb, k_seqc, a_op, k_op, a_c, a_var, a_b, k_b, a_then, k_and1, k_and0, k_or1, k_or0, k_andV1, k_andV0, k_orV1, k_orV0, k_if1, k_if0, k_ifS1, k_ifS0, k_ifT1, k_ifT0, k_notV, k_not, a_yes, a_no, a_next, a_never, a_par, k_par, a_for, k_for, a_i1, k_i1, a_io, k_io, a_call, k_call, a_callP, k_callP, a_chain, k_chain, a_mut, k_mut, a_sto, k_sto, a_lc, k_lc, a_new, a_gN, a_gT, d_lt, d_le, d_gt, d_ge, d_intB, ev, rds, chk, pAny, pTup, pInt, takeA, wbE, permL, padE, outE, gNs, own_int, own_bl, own_str, own_non, own_tup, own_ins, own_frl, own_lst, own_dic, dTup, dLst, dAdd, dSub, dMulS, dDiv, dMod, dNeg, dInt, dAbs, dIsN, dNotN, D.isNon, dLen, dItems, dIx, dTru, D.tru, D.seq, fSetL, fAppend, sizeLine_eq, rg1, rg2, rg3, rg4, rg5, rg6, rg7, rg8, a_raise, k_raise, a_par3, k_par3, a_try, kt_ok, kt_exc, hdl, sEnd, dropN, inR, dRev, a_fz, k_fzL, k_fzF, k_fzT, a_fzS, k_fzS]
  unfold F__law_span m__law_span
  simp [b_ok, b_stuck, b_exc, a_def, f_ok, f_exc, k_rt, k_nx, a_do, a_set, a_set2, a_drop, a_ret, a_unp, a_seq, k_seq, k_seqr, k_seqb, k_seqc, a_op, k_op, a_c, a_var, a_b, k_b, a_then, k_and1, k_and0, k_or1, k_or0, k_andV1, k_andV0, k_orV1, k_orV0, k_if1, k_if0, k_ifS1, k_ifS0, k_ifT1, k_ifT0, k_notV, k_not, a_yes, a_no, a_next, a_never, a_par, k_par, a_for, k_for, a_i1, k_i1, a_io, k_io, a_call, k_call, a_callP, k_callP, a_chain, k_chain, a_mut, k_mut, a_sto, k_sto, a_lc, k_lc, a_new, a_gN, a_gT, d_lt, d_le, d_gt, d_ge, d_intB, ev, rds, chk, pAny, pTup, pInt, takeA, wbE, permL, padE, outE, gNs, own_int, own_bl, own_str, own_non, own_tup, own_ins, own_frl, own_lst, own_dic, dTup, dLst, dAdd, dSub, dMulS, dDiv, dMod, dNeg, dInt, dAbs, dIsN, dNotN, D.isNon, dLen, dItems, dIx, dTru, D.tru, D.seq, fSetL, fAppend, sizeLine_eq, rg1, rg2, rg3, rg4, rg5, rg6, rg7, rg8, a_raise, k_raise, a_par3, k_par3, a_try, kt_ok, kt_exc, hdl, sEnd, dropN, inR, dRev, a_fz, k_fzL, k_fzF, k_fzT, a_fzS, k_fzS, dIxT, dInts_map, hx, E1, E2, hi0, Nat.le_of_lt hi0, lo, hi]

theorem d_llen (s : List Int) (x : Int) (hx : x ∈ s) (hl : s.length ≤ 40) : F__law_length [some (.tup (s.map .int)), some (.int x)] = .ok (.int (len s x), [some (.tup (s.map .int)), some (.int x)]) := by
  have k := d_lspan s x hx hl
  unfold F__law_length m__law_length
  simp [b_ok, b_stuck, b_exc, a_def, f_ok, f_exc, k_rt, k_nx, a_do, a_set, a_set2, a_drop, a_ret, a_unp, a_seq, k_seq, k_seqr, k_seqb, k_seqc, a_op, k_op, a_c, a_var, a_b, k_b, a_then, k_and1, k_and0, k_or1, k_or0, k_andV1, k_andV0, k_orV1, k_orV0, k_if1, k_if0, k_ifS1, k_ifS0, k_ifT1, k_ifT0, k_notV, k_not, a_yes, a_no, a_next, a_never, a_par, k_par, a_for, k_for, a_i1, k_i1, a_io, k_io, a_call, k_call, a_callP, k_callP, a_chain, k_chain, a_mut, k_mut, a_sto, k_sto, a_lc, k_lc, a_new, a_gN, a_gT, d_lt, d_le, d_gt, d_ge, d_intB, ev, rds, chk, pAny, pTup, pInt, takeA, wbE, permL, padE, outE, gNs, own_int, own_bl, own_str, own_non, own_tup, own_ins, own_frl, own_lst, own_dic, dTup, dLst, dAdd, dSub, dMulS, dDiv, dMod, dNeg, dInt, dAbs, dIsN, dNotN, D.isNon, dLen, dItems, dIx, dTru, D.tru, D.seq, fSetL, fAppend, sizeLine_eq, rg1, rg2, rg3, rg4, rg5, rg6, rg7, rg8, a_raise, k_raise, a_par3, k_par3, a_try, kt_ok, kt_exc, hdl, sEnd, dropN, inR, dRev, a_fz, k_fzL, k_fzF, k_fzT, a_fzS, k_fzS, k, len]

theorem at2 {α : Type} {x y z : α} {xs : List α} : L2.atI (x :: y :: z :: xs) 2 = some z := by
  have := atI_nat (xs := x :: y :: z :: xs) (i := 2)
  simpa using this

theorem at3 {α : Type} {x y z w : α} {xs : List α} : L2.atI (x :: y :: z :: w :: xs) 3 = some w := by
  have := atI_nat (xs := x :: y :: z :: w :: xs) (i := 3)
  simpa using this

theorem d_lclosers (s : List Int) (e x : Int) (h1 : 0 ≤ e) (h2 : e ≤ 3) (hx : x ∈ s) (hl : s.length ≤ 40) : F__law_closers [some (.tup (s.map .int)), some (.int e), some (.int x)] = .ok (.tup [aD s e (lo s x), bD s e (hi s x)], [some (.tup (s.map .int)), some (.int e), some (.int x)]) := by
  have k := d_lspan s x hx hl
  have g := lo_lt hx
  have g2 := hi_lt hx
  unfold F__law_closers m__law_closers
  have he : e = 0 ∨ e = 1 ∨ e = 2 ∨ e = 3 := by omega
  have a1 : 0 < lo s x → ∀ e, aD s e (lo s x) = .int (s.getD (lo s x - 1) 0) := fun c e => by unfold aD; rw [if_pos c]
  have a2 : ¬ 0 < lo s x → ∀ e, aD s e (lo s x) = if e = 1 ∨ e = 3 then wal else opn := fun c e => by unfold aD; rw [if_neg c]
  have b1 : hi s x + 1 < s.length → ∀ e, bD s e (hi s x) = .int (s.getD (hi s x + 1) 0) := fun c e => by unfold bD; rw [if_pos c]
  have b2 : ¬ hi s x + 1 < s.length → ∀ e, bD s e (hi s x) = if 2 ≤ e then wal else opn := fun c e => by unfold bD; rw [if_neg c]
  by_cases c1 : 0 < lo s x
  · obtain ⟨i, hi'⟩ : ∃ i, lo s x = i + 1 := ⟨lo s x - 1, by omega⟩
    have q1 : (0 : Int) < lo s x := by omega
    have w1 : ∀ ρ : TV.Env, ρ[0]? = some (some (.tup (s.map .int))) → ρ[3]? = some (some (.int (lo s x))) → mOp [.var 0 pAny, .tmp (mOp [.var 3 pAny, .tmp (mC (.int 1)) pAny] dSub) pAny] dIx ρ = .ok (.int (s.getD (lo s x - 1) 0), ρ) := fun ρ h0 h3 => by
      rw [hi'] at h3 ⊢
      have hk : i < s.length := by omega
      simp [b_ok, b_stuck, b_exc, a_def, f_ok, f_exc, k_rt, k_nx, a_do, a_set, a_set2, a_drop, a_ret, a_unp, a_seq, k_seq, k_seqr, k_seqb, k_seqc, a_op, k_op, a_c, a_var, a_b, k_b, a_then, k_and1, k_and0, k_or1, k_or0, k_andV1, k_andV0, k_orV1, k_orV0, k_if1, k_if0, k_ifS1, k_ifS0, k_ifT1, k_ifT0, k_notV, k_not, a_yes, a_no, a_next, a_never, a_par, k_par, a_for, k_for, a_i1, k_i1, a_io, k_io, a_call, k_call, a_callP, k_callP, a_chain, k_chain, a_mut, k_mut, a_sto, k_sto, a_lc, k_lc, a_new, a_gN, a_gT, d_lt, d_le, d_gt, d_ge, d_intB, ev, rds, chk, pAny, pTup, pInt, takeA, wbE, permL, padE, outE, gNs, own_int, own_bl, own_str, own_non, own_tup, own_ins, own_frl, own_lst, own_dic, dTup, dLst, dAdd, dSub, dMulS, dDiv, dMod, dNeg, dInt, dAbs, dIsN, dNotN, D.isNon, dLen, dItems, dIx, dTru, D.tru, D.seq, fSetL, fAppend, sizeLine_eq, rg1, rg2, rg3, rg4, rg5, rg6, rg7, rg8, a_raise, k_raise, a_par3, k_par3, a_try, kt_ok, kt_exc, hdl, sEnd, dropN, inR, dRev, a_fz, k_fzL, k_fzF, k_fzT, a_fzS, k_fzS, h0, h3, atI_nat, get_map hk]
    by_cases c2 : hi s x + 1 < s.length
    · have q2 : (hi s x : Int) < (s.length : Int) - 1 := by omega
      simp [b_ok, b_stuck, b_exc, a_def, f_ok, f_exc, k_rt, k_nx, a_do, a_set, a_set2, a_drop, a_ret, a_unp, a_seq, k_seq, k_seqr, k_seqb, k_seqc, a_op, k_op, a_c, a_var, a_b, k_b, a_then, k_and1, k_and0, k_or1, k_or0, k_andV1, k_andV0, k_orV1, k_orV0, k_if1, k_if0, k_ifS1, k_ifS0, k_ifT1, k_ifT0, k_notV, k_not, a_yes, a_no, a_next, a_never, a_par, k_par, a_for, k_for, a_i1, k_i1, a_io, k_io, a_call, k_call, a_callP, k_callP, a_chain, k_chain, a_mut, k_mut, a_sto, k_sto, a_lc, k_lc, a_new, a_gN, a_gT, d_lt, d_le, d_gt, d_ge, d_intB, ev, rds, chk, pAny, pTup, pInt, takeA, wbE, permL, padE, outE, gNs, own_int, own_bl, own_str, own_non, own_tup, own_ins, own_frl, own_lst, own_dic, dTup, dLst, dAdd, dSub, dMulS, dDiv, dMod, dNeg, dInt, dAbs, dIsN, dNotN, D.isNon, dLen, dItems, dIx, dTru, D.tru, D.seq, fSetL, fAppend, sizeLine_eq, rg1, rg2, rg3, rg4, rg5, rg6, rg7, rg8, a_raise, k_raise, a_par3, k_par3, a_try, kt_ok, kt_exc, hdl, sEnd, dropN, inR, dRev, a_fz, k_fzL, k_fzF, k_fzT, a_fzS, k_fzS, k, q1, q2, c1, c2, ↓w1, a1 c1, b1 c2, atI_succ, get_map c2]
    · have q2 : ¬ (hi s x : Int) < (s.length : Int) - 1 := by omega
      rw [b2 c2]
      rcases he with rfl | rfl | rfl | rfl <;> simp [b_ok, b_stuck, b_exc, a_def, f_ok, f_exc, k_rt, k_nx, a_do, a_set, a_set2, a_drop, a_ret, a_unp, a_seq, k_seq, k_seqr, k_seqb, k_seqc, a_op, k_op, a_c, a_var, a_b, k_b, a_then, k_and1, k_and0, k_or1, k_or0, k_andV1, k_andV0, k_orV1, k_orV0, k_if1, k_if0, k_ifS1, k_ifS0, k_ifT1, k_ifT0, k_notV, k_not, a_yes, a_no, a_next, a_never, a_par, k_par, a_for, k_for, a_i1, k_i1, a_io, k_io, a_call, k_call, a_callP, k_callP, a_chain, k_chain, a_mut, k_mut, a_sto, k_sto, a_lc, k_lc, a_new, a_gN, a_gT, d_lt, d_le, d_gt, d_ge, d_intB, ev, rds, chk, pAny, pTup, pInt, takeA, wbE, permL, padE, outE, gNs, own_int, own_bl, own_str, own_non, own_tup, own_ins, own_frl, own_lst, own_dic, dTup, dLst, dAdd, dSub, dMulS, dDiv, dMod, dNeg, dInt, dAbs, dIsN, dNotN, D.isNon, dLen, dItems, dIx, dTru, D.tru, D.seq, fSetL, fAppend, sizeLine_eq, rg1, rg2, rg3, rg4, rg5, rg6, rg7, rg8, a_raise, k_raise, a_par3, k_par3, a_try, kt_ok, kt_exc, hdl, sEnd, dropN, inR, dRev, a_fz, k_fzL, k_fzF, k_fzT, a_fzS, k_fzS, k, q1, q2, c1, c2, ↓w1, a1 c1, at0, at1, at2, at3, opn, wal]
  · have q1 : ¬ (0 : Int) < lo s x := by omega
    rw [a2 c1]
    by_cases c2 : hi s x + 1 < s.length
    · have q2 : (hi s x : Int) < (s.length : Int) - 1 := by omega
      rw [b1 c2]
      rcases he with rfl | rfl | rfl | rfl <;> simp [b_ok, b_stuck, b_exc, a_def, f_ok, f_exc, k_rt, k_nx, a_do, a_set, a_set2, a_drop, a_ret, a_unp, a_seq, k_seq, k_seqr, k_seqb, k_seqc, a_op, k_op, a_c, a_var, a_b, k_b, a_then, k_and1, k_and0, k_or1, k_or0, k_andV1, k_andV0, k_orV1, k_orV0, k_if1, k_if0, k_ifS1, k_ifS0, k_ifT1, k_ifT0, k_notV, k_not, a_yes, a_no, a_next, a_never, a_par, k_par, a_for, k_for, a_i1, k_i1, a_io, k_io, a_call, k_call, a_callP, k_callP, a_chain, k_chain, a_mut, k_mut, a_sto, k_sto, a_lc, k_lc, a_new, a_gN, a_gT, d_lt, d_le, d_gt, d_ge, d_intB, ev, rds, chk, pAny, pTup, pInt, takeA, wbE, permL, padE, outE, gNs, own_int, own_bl, own_str, own_non, own_tup, own_ins, own_frl, own_lst, own_dic, dTup, dLst, dAdd, dSub, dMulS, dDiv, dMod, dNeg, dInt, dAbs, dIsN, dNotN, D.isNon, dLen, dItems, dIx, dTru, D.tru, D.seq, fSetL, fAppend, sizeLine_eq, rg1, rg2, rg3, rg4, rg5, rg6, rg7, rg8, a_raise, k_raise, a_par3, k_par3, a_try, kt_ok, kt_exc, hdl, sEnd, dropN, inR, dRev, a_fz, k_fzL, k_fzF, k_fzT, a_fzS, k_fzS, k, q1, q2, c1, c2, at0, at1, at2, at3, opn, wal, atI_succ, get_map c2]
    · have q2 : ¬ (hi s x : Int) < (s.length : Int) - 1 := by omega
      rw [b2 c2]
      rcases he with rfl | rfl | rfl | rfl <;> simp [b_ok, b_stuck, b_exc, a_def, f_ok, f_exc, k_rt, k_nx, a_do, a_set, a_set2, a_drop, a_ret, a_unp, a_seq, k_seq, k_seqr, k_seqb, k_seqc, a_op, k_op, a_c, a_var, a_b, k_b, a_then, k_and1, k_and0, k_or1, k_or0, k_andV1, k_andV0, k_orV1, k_orV0, k_if1, k_if0, k_ifS1, k_ifS0, k_ifT1, k_ifT0, k_notV, k_not, a_yes, a_no, a_next, a_never, a_par, k_par, a_for, k_for, a_i1, k_i1, a_io, k_io, a_call, k_call, a_callP, k_callP, a_chain, k_chain, a_mut, k_mut, a_sto, k_sto, a_lc, k_lc, a_new, a_gN, a_gT, d_lt, d_le, d_gt, d_ge, d_intB, ev, rds, chk, pAny, pTup, pInt, takeA, wbE, permL, padE, outE, gNs, own_int, own_bl, own_str, own_non, own_tup, own_ins, own_frl, own_lst, own_dic, dTup, dLst, dAdd, dSub, dMulS, dDiv, dMod, dNeg, dInt, dAbs, dIsN, dNotN, D.isNon, dLen, dItems, dIx, dTru, D.tru, D.seq, fSetL, fAppend, sizeLine_eq, rg1, rg2, rg3, rg4, rg5, rg6, rg7, rg8, a_raise, k_raise, a_par3, k_par3, a_try, kt_ok, kt_exc, hdl, sEnd, dropN, inR, dRev, a_fz, k_fzL, k_fzF, k_fzT, a_fzS, k_fzS, k, q1, q2, c1, c2, at0, at1, at2, at3, opn, wal]

theorem d_lheads (s : List Int) (e : Int) (h1 : 0 ≤ e) (h2 : e ≤ 3) (hl : s.length ≤ 40) : F__law_heads [some (.tup (s.map .int)), some (.int e)] = .ok (.lst ((heads s e).map .int), [some (.tup (s.map .int)), some (.int e)]) := by
  have so := sort_tup s
  have hz := sortI_len s
  have mem : ∀ {x}, x ∈ sortI s → x ∈ s := fun h => (sortI_perm s).mem_iff.mp h
  have lc1 := lc_run (vs := [3]) (i := 3) (t := t__law_heads_1) (u := u__law_heads_2) (ρ := [some (.tup (s.map .int)), some (.int e), none, none])
    (b := fun d => match d with | .int x => decide (1 < len s x) | _ => false) (g := id) ((sortI s).map D.int) [] (fun d hd => by
      obtain ⟨x, hx, rfl⟩ := List.mem_map.mp hd
      have k := d_llen s x (mem hx) hl
      refine ⟨?_, fun _ => ⟨by simp [b_ok, b_stuck, b_exc, a_def, f_ok, f_exc, k_rt, k_nx, a_do, a_set, a_set2, a_drop, a_ret, a_unp, a_seq, k_seq, k_seqr, k_seqb, k_seqc, a_op, k_op, a_c, a_var, a_b, k_b, a_then, k_and1, k_and0, k_or1, k_or0, k_andV1, k_andV0, k_orV1, k_orV0, k_if1, k_if0, k_ifS1, k_ifS0, k_ifT1, k_ifT0, k_notV, k_not, a_yes, a_no, a_next, a_never, a_par, k_par, a_for, k_for, a_i1, k_i1, a_io, k_io, a_call, k_call, a_callP, k_callP, a_chain, k_chain, a_mut, k_mut, a_sto, k_sto, a_lc, k_lc, a_new, a_gN, a_gT, d_lt, d_le, d_gt, d_ge, d_intB, ev, rds, chk, pAny, pTup, pInt, takeA, wbE, permL, padE, outE, gNs, own_int, own_bl, own_str, own_non, own_tup, own_ins, own_frl, own_lst, own_dic, dTup, dLst, dAdd, dSub, dMulS, dDiv, dMod, dNeg, dInt, dAbs, dIsN, dNotN, D.isNon, dLen, dItems, dIx, dTru, D.tru, D.seq, fSetL, fAppend, sizeLine_eq, rg1, rg2, rg3, rg4, rg5, rg6, rg7, rg8, a_raise, k_raise, a_par3, k_par3, a_try, kt_ok, kt_exc, hdl, sEnd, dropN, inR, dRev, a_fz, k_fzL, k_fzF, k_fzT, a_fzS, k_fzS], rfl⟩, by simp [wipeE]⟩
      simp [b_ok, b_stuck, b_exc, a_def, f_ok, f_exc, k_rt, k_nx, a_do, a_set, a_set2, a_drop, a_ret, a_unp, a_seq, k_seq, k_seqr, k_seqb, k_seqc, a_op, k_op, a_c, a_var, a_b, k_b, a_then, k_and1, k_and0, k_or1, k_or0, k_andV1, k_andV0, k_orV1, k_orV0, k_if1, k_if0, k_ifS1, k_ifS0, k_ifT1, k_ifT0, k_notV, k_not, a_yes, a_no, a_next, a_never, a_par, k_par, a_for, k_for, a_i1, k_i1, a_io, k_io, a_call, k_call, a_callP, k_callP, a_chain, k_chain, a_mut, k_mut, a_sto, k_sto, a_lc, k_lc, a_new, a_gN, a_gT, d_lt, d_le, d_gt, d_ge, d_intB, ev, rds, chk, pAny, pTup, pInt, takeA, wbE, permL, padE, outE, gNs, own_int, own_bl, own_str, own_non, own_tup, own_ins, own_frl, own_lst, own_dic, dTup, dLst, dAdd, dSub, dMulS, dDiv, dMod, dNeg, dInt, dAbs, dIsN, dNotN, D.isNon, dLen, dItems, dIx, dTru, D.tru, D.seq, fSetL, fAppend, sizeLine_eq, rg1, rg2, rg3, rg4, rg5, rg6, rg7, rg8, a_raise, k_raise, a_par3, k_par3, a_try, kt_ok, kt_exc, hdl, sEnd, dropN, inR, dRev, a_fz, k_fzL, k_fzF, k_fzT, a_fzS, k_fzS, k]) (by simp [sizeLine_eq]; omega)
  rw [lst_filter_ints _ _ (fun x => decide (1 < len s x)) (fun x => rfl), List.nil_append] at lc1
  have sub : ∀ x ∈ (sortI s).filter (fun x => decide (1 < len s x)), x ∈ s := fun x hx => mem (List.mem_filter.mp hx).1
  have lz : ((sortI s).filter (fun x => decide (1 < len s x))).length ≤ 40 := by have := List.length_filter_le (fun x => decide (1 < len s x)) (sortI s); omega
  have hh : heads s e = ((sortI s).filter (fun x => decide (1 < len s x))).filter fun x => !flag s e x := by
    rw [List.filter_filter]
    unfold heads
    refine List.filter_congr fun x _ => ?_
    unfold head len
    rw [Bool.and_comm]
    congr 1
  have lc2 := lc_run (vs := [3]) (i := 3) (t := t__law_heads_3) (u := u__law_heads_4) (ρ := [some (.tup (s.map .int)), some (.int e), none, none])
    (b := fun d => match d with | .int x => !flag s e x | _ => false) (g := id) (((sortI s).filter (fun x => decide (1 < len s x))).map D.int) [] (fun d hd => by
      obtain ⟨x, hx, rfl⟩ := List.mem_map.mp hd
      have k := d_lclosers s e x h1 h2 (sub x hx) hl
      have k2 : dInA true [.str "open", .tup [aD s e (lo s x), bD s e (hi s x)]] = some (.bl (!flag s e x)) := in_not (in_open s e (lo s x) (hi s x))
      refine ⟨?_, fun _ => ⟨by simp [b_ok, b_stuck, b_exc, a_def, f_ok, f_exc, k_rt, k_nx, a_do, a_set, a_set2, a_drop, a_ret, a_unp, a_seq, k_seq, k_seqr, k_seqb, k_seqc, a_op, k_op, a_c, a_var, a_b, k_b, a_then, k_and1, k_and0, k_or1, k_or0, k_andV1, k_andV0, k_orV1, k_orV0, k_if1, k_if0, k_ifS1, k_ifS0, k_ifT1, k_ifT0, k_notV, k_not, a_yes, a_no, a_next, a_never, a_par, k_par, a_for, k_for, a_i1, k_i1, a_io, k_io, a_call, k_call, a_callP, k_callP, a_chain, k_chain, a_mut, k_mut, a_sto, k_sto, a_lc, k_lc, a_new, a_gN, a_gT, d_lt, d_le, d_gt, d_ge, d_intB, ev, rds, chk, pAny, pTup, pInt, takeA, wbE, permL, padE, outE, gNs, own_int, own_bl, own_str, own_non, own_tup, own_ins, own_frl, own_lst, own_dic, dTup, dLst, dAdd, dSub, dMulS, dDiv, dMod, dNeg, dInt, dAbs, dIsN, dNotN, D.isNon, dLen, dItems, dIx, dTru, D.tru, D.seq, fSetL, fAppend, sizeLine_eq, rg1, rg2, rg3, rg4, rg5, rg6, rg7, rg8, a_raise, k_raise, a_par3, k_par3, a_try, kt_ok, kt_exc, hdl, sEnd, dropN, inR, dRev, a_fz, k_fzL, k_fzF, k_fzT, a_fzS, k_fzS], rfl⟩, by simp [wipeE]⟩
      simp [b_ok, b_stuck, b_exc, a_def, f_ok, f_exc, k_rt, k_nx, a_do, a_set, a_set2, a_drop, a_ret, a_unp, a_seq, k_seq, k_seqr, k_seqb, k_seqc, a_op, k_op, a_c, a_var, a_b, k_b, a_then, k_and1, k_and0, k_or1, k_or0, k_andV1, k_andV0, k_orV1, k_orV0, k_if1, k_if0, k_ifS1, k_ifS0, k_ifT1, k_ifT0, k_notV, k_not, a_yes, a_no, a_next, a_never, a_par, k_par, a_for, k_for, a_i1, k_i1, a_io, k_io, a_call, k_call, a_callP, k_callP, a_chain, k_chain, a_mut, k_mut, a_sto, k_sto, a_lc, k_lc, a_new, a_gN, a_gT, d_lt, d_le, d_gt, d_ge, d_intB, ev, rds, chk, pAny, pTup, pInt, takeA, wbE, permL, padE, outE, gNs, own_int, own_bl, own_str, own_non, own_tup, own_ins, own_frl, own_lst, own_dic, dTup, dLst, dAdd, dSub, dMulS, dDiv, dMod, dNeg, dInt, dAbs, dIsN, dNotN, D.isNon, dLen, dItems, dIx, dTru, D.tru, D.seq, fSetL, fAppend, sizeLine_eq, rg1, rg2, rg3, rg4, rg5, rg6, rg7, rg8, a_raise, k_raise, a_par3, k_par3, a_try, kt_ok, kt_exc, hdl, sEnd, dropN, inR, dRev, a_fz, k_fzL, k_fzF, k_fzT, a_fzS, k_fzS, k, k2]) (by simp [sizeLine_eq]; omega)
  rw [lst_filter_ints _ _ (fun x => !flag s e x) (fun x => rfl), List.nil_append, ← hh] at lc2
  generalize (sortI s).filter (fun x => decide (1 < len s x)) = W at *
  unfold F__law_heads m__law_heads
  simp [b_ok, b_stuck, b_exc, a_def, f_ok, f_exc, k_rt, k_nx, a_do, a_set, a_set2, a_drop, a_ret, a_unp, a_seq, k_seq, k_seqr, k_seqb, k_seqc, a_op, k_op, a_c, a_var, a_b, k_b, a_then, k_and1, k_and0, k_or1, k_or0, k_andV1, k_andV0, k_orV1, k_orV0, k_if1, k_if0, k_ifS1, k_ifS0, k_ifT1, k_ifT0, k_notV, k_not, a_yes, a_no, a_next, a_never, a_par, k_par, a_for, k_for, a_i1, k_i1, a_io, k_io, a_call, k_call, a_callP, k_callP, a_chain, k_chain, a_mut, k_mut, a_sto, k_sto, a_lc, k_lc, a_new, a_gN, a_gT, d_lt, d_le, d_gt, d_ge, d_intB, ev, rds, chk, pAny, pTup, pInt, takeA, wbE, permL, padE, outE, gNs, own_int, own_bl, own_str, own_non, own_tup, own_ins, own_frl, own_lst, own_dic, dTup, dLst, dAdd, dSub, dMulS, dDiv, dMod, dNeg, dInt, dAbs, dIsN, dNotN, D.isNon, dLen, dItems, dIx, dTru, D.tru, D.seq, fSetL, fAppend, sizeLine_eq, rg1, rg2, rg3, rg4, rg5, rg6, rg7, rg8, a_raise, k_raise, a_par3, k_par3, a_try, kt_ok, kt_exc, hdl, sEnd, dropN, inR, dRev, a_fz, k_fzL, k_fzF, k_fzT, a_fzS, k_fzS, so, wipeE, lc1, lc2]

theorem d_lparent (s : List Int) (e x : Int) (h1 : 0 ≤ e) (h2 : e ≤ 3) (hx : x ∈ s) (hl : s.length ≤ 40) : F__law_parent [some (.tup (s.map .int)), some (.int e), some (.int x)] = .ok (oD (par s x), [some (.tup (s.map .int)), some (.int e), some (.int x)]) := by
  have k0 := d_lclosers s e x h1 h2 hx hl
  have lc := lc_run (vs := [4]) (i := 4) (t := t__law_parent_1) (u := u__law_parent_2) (ρ := [some (.tup (s.map .int)), some (.int e), some (.int x), none, none])
    (b := isI) (g := id) [aD s e (lo s x), bD s e (hi s x)] [] (fun d hd => by
      have hi : (∃ k, d = .int k) ∨ d = opn ∨ d = wal := by
        simp only [List.mem_cons, List.not_mem_nil, or_false] at hd
        rcases hd with rfl | rfl
        · exact aD_is s e _
        · exact bD_is s e _
      have kO : dInA true [.str "open", .tup [.str "wall", .str "open"]] = some (.bl false) := in_wo opn (.inr (.inl rfl))
      have kW : dInA true [.str "wall", .tup [.str "wall", .str "open"]] = some (.bl false) := in_wo wal (.inr (.inr rfl))
      have kI : ∀ i, dInA true [.int i, .tup [.str "wall", .str "open"]] = some (.bl true) := fun i => in_wo (.int i) (.inl ⟨i, rfl⟩)
      refine ⟨?_, fun hb => ⟨?_, ?_⟩, by simp [wipeE]⟩
      · rcases hi with ⟨i, rfl⟩ | rfl | rfl
        · simp [b_ok, b_stuck, b_exc, a_def, f_ok, f_exc, k_rt, k_nx, a_do, a_set, a_set2, a_drop, a_ret, a_unp, a_seq, k_seq, k_seqr, k_seqb, k_seqc, a_op, k_op, a_c, a_var, a_b, k_b, a_then, k_and1, k_and0, k_or1, k_or0, k_andV1, k_andV0, k_orV1, k_orV0, k_if1, k_if0, k_ifS1, k_ifS0, k_ifT1, k_ifT0, k_notV, k_not, a_yes, a_no, a_next, a_never, a_par, k_par, a_for, k_for, a_i1, k_i1, a_io, k_io, a_call, k_call, a_callP, k_callP, a_chain, k_chain, a_mut, k_mut, a_sto, k_sto, a_lc, k_lc, a_new, a_gN, a_gT, d_lt, d_le, d_gt, d_ge, d_intB, ev, rds, chk, pAny, pTup, pInt, takeA, wbE, permL, padE, outE, gNs, own_int, own_bl, own_str, own_non, own_tup, own_ins, own_frl, own_lst, own_dic, dTup, dLst, dAdd, dSub, dMulS, dDiv, dMod, dNeg, dInt, dAbs, dIsN, dNotN, D.isNon, dLen, dItems, dIx, dTru, D.tru, D.seq, fSetL, fAppend, sizeLine_eq, rg1, rg2, rg3, rg4, rg5, rg6, rg7, rg8, a_raise, k_raise, a_par3, k_par3, a_try, kt_ok, kt_exc, hdl, sEnd, dropN, inR, dRev, a_fz, k_fzL, k_fzF, k_fzT, a_fzS, k_fzS, kI]
          rfl
        · simp [b_ok, b_stuck, b_exc, a_def, f_ok, f_exc, k_rt, k_nx, a_do, a_set, a_set2, a_drop, a_ret, a_unp, a_seq, k_seq, k_seqr, k_seqb, k_seqc, a_op, k_op, a_c, a_var, a_b, k_b, a_then, k_and1, k_and0, k_or1, k_or0, k_andV1, k_andV0, k_orV1, k_orV0, k_if1, k_if0, k_ifS1, k_ifS0, k_ifT1, k_ifT0, k_notV, k_not, a_yes, a_no, a_next, a_never, a_par, k_par, a_for, k_for, a_i1, k_i1, a_io, k_io, a_call, k_call, a_callP, k_callP, a_chain, k_chain, a_mut, k_mut, a_sto, k_sto, a_lc, k_lc, a_new, a_gN, a_gT, d_lt, d_le, d_gt, d_ge, d_intB, ev, rds, chk, pAny, pTup, pInt, takeA, wbE, permL, padE, outE, gNs, own_int, own_bl, own_str, own_non, own_tup, own_ins, own_frl, own_lst, own_dic, dTup, dLst, dAdd, dSub, dMulS, dDiv, dMod, dNeg, dInt, dAbs, dIsN, dNotN, D.isNon, dLen, dItems, dIx, dTru, D.tru, D.seq, fSetL, fAppend, sizeLine_eq, rg1, rg2, rg3, rg4, rg5, rg6, rg7, rg8, a_raise, k_raise, a_par3, k_par3, a_try, kt_ok, kt_exc, hdl, sEnd, dropN, inR, dRev, a_fz, k_fzL, k_fzF, k_fzT, a_fzS, k_fzS, kO, opn]
          rfl
        · simp [b_ok, b_stuck, b_exc, a_def, f_ok, f_exc, k_rt, k_nx, a_do, a_set, a_set2, a_drop, a_ret, a_unp, a_seq, k_seq, k_seqr, k_seqb, k_seqc, a_op, k_op, a_c, a_var, a_b, k_b, a_then, k_and1, k_and0, k_or1, k_or0, k_andV1, k_andV0, k_orV1, k_orV0, k_if1, k_if0, k_ifS1, k_ifS0, k_ifT1, k_ifT0, k_notV, k_not, a_yes, a_no, a_next, a_never, a_par, k_par, a_for, k_for, a_i1, k_i1, a_io, k_io, a_call, k_call, a_callP, k_callP, a_chain, k_chain, a_mut, k_mut, a_sto, k_sto, a_lc, k_lc, a_new, a_gN, a_gT, d_lt, d_le, d_gt, d_ge, d_intB, ev, rds, chk, pAny, pTup, pInt, takeA, wbE, permL, padE, outE, gNs, own_int, own_bl, own_str, own_non, own_tup, own_ins, own_frl, own_lst, own_dic, dTup, dLst, dAdd, dSub, dMulS, dDiv, dMod, dNeg, dInt, dAbs, dIsN, dNotN, D.isNon, dLen, dItems, dIx, dTru, D.tru, D.seq, fSetL, fAppend, sizeLine_eq, rg1, rg2, rg3, rg4, rg5, rg6, rg7, rg8, a_raise, k_raise, a_par3, k_par3, a_try, kt_ok, kt_exc, hdl, sEnd, dropN, inR, dRev, a_fz, k_fzL, k_fzF, k_fzT, a_fzS, k_fzS, kW, wal]
          rfl
      · rcases hi with ⟨i, rfl⟩ | rfl | rfl <;> simp [b_ok, b_stuck, b_exc, a_def, f_ok, f_exc, k_rt, k_nx, a_do, a_set, a_set2, a_drop, a_ret, a_unp, a_seq, k_seq, k_seqr, k_seqb, k_seqc, a_op, k_op, a_c, a_var, a_b, k_b, a_then, k_and1, k_and0, k_or1, k_or0, k_andV1, k_andV0, k_orV1, k_orV0, k_if1, k_if0, k_ifS1, k_ifS0, k_ifT1, k_ifT0, k_notV, k_not, a_yes, a_no, a_next, a_never, a_par, k_par, a_for, k_for, a_i1, k_i1, a_io, k_io, a_call, k_call, a_callP, k_callP, a_chain, k_chain, a_mut, k_mut, a_sto, k_sto, a_lc, k_lc, a_new, a_gN, a_gT, d_lt, d_le, d_gt, d_ge, d_intB, ev, rds, chk, pAny, pTup, pInt, takeA, wbE, permL, padE, outE, gNs, own_int, own_bl, own_str, own_non, own_tup, own_ins, own_frl, own_lst, own_dic, dTup, dLst, dAdd, dSub, dMulS, dDiv, dMod, dNeg, dInt, dAbs, dIsN, dNotN, D.isNon, dLen, dItems, dIx, dTru, D.tru, D.seq, fSetL, fAppend, sizeLine_eq, rg1, rg2, rg3, rg4, rg5, rg6, rg7, rg8, a_raise, k_raise, a_par3, k_par3, a_try, kt_ok, kt_exc, hdl, sEnd, dropN, inR, dRev, a_fz, k_fzL, k_fzF, k_fzT, a_fzS, k_fzS, opn, wal]
      · rcases hi with ⟨i, rfl⟩ | rfl | rfl <;> rfl) (by simp [sizeLine_eq])
  rw [List.nil_append, List.map_id, clo_D s e x] at lc
  have en := ne_nil (clo s x)
  unfold F__law_parent m__law_parent
  simp only [par]
  cases hc : clo s x with
  | nil =>
    rw [hc] at lc en
    simp only [List.map_nil] at lc en
    simp [b_ok, b_stuck, b_exc, a_def, f_ok, f_exc, k_rt, k_nx, a_do, a_set, a_set2, a_drop, a_ret, a_unp, a_seq, k_seq, k_seqr, k_seqb, k_seqc, a_op, k_op, a_c, a_var, a_b, k_b, a_then, k_and1, k_and0, k_or1, k_or0, k_andV1, k_andV0, k_orV1, k_orV0, k_if1, k_if0, k_ifS1, k_ifS0, k_ifT1, k_ifT0, k_notV, k_not, a_yes, a_no, a_next, a_never, a_par, k_par, a_for, k_for, a_i1, k_i1, a_io, k_io, a_call, k_call, a_callP, k_callP, a_chain, k_chain, a_mut, k_mut, a_sto, k_sto, a_lc, k_lc, a_new, a_gN, a_gT, d_lt, d_le, d_gt, d_ge, d_intB, ev, rds, chk, pAny, pTup, pInt, takeA, wbE, permL, padE, outE, gNs, own_int, own_bl, own_str, own_non, own_tup, own_ins, own_frl, own_lst, own_dic, dTup, dLst, dAdd, dSub, dMulS, dDiv, dMod, dNeg, dInt, dAbs, dIsN, dNotN, D.isNon, dLen, dItems, dIx, dTru, D.tru, D.seq, fSetL, fAppend, sizeLine_eq, rg1, rg2, rg3, rg4, rg5, rg6, rg7, rg8, a_raise, k_raise, a_par3, k_par3, a_try, kt_ok, kt_exc, hdl, sEnd, dropN, inR, dRev, a_fz, k_fzL, k_fzF, k_fzT, a_fzS, k_fzS, k0, aD_own, bD_own, wipeE, lc, en, mnO, oD]
  | cons n ns =>
    rw [hc] at lc en
    have em := min_lst n ns
    simp only [List.map_cons] at em lc en
    simp [b_ok, b_stuck, b_exc, a_def, f_ok, f_exc, k_rt, k_nx, a_do, a_set, a_set2, a_drop, a_ret, a_unp, a_seq, k_seq, k_seqr, k_seqb, k_seqc, a_op, k_op, a_c, a_var, a_b, k_b, a_then, k_and1, k_and0, k_or1, k_or0, k_andV1, k_andV0, k_orV1, k_orV0, k_if1, k_if0, k_ifS1, k_ifS0, k_ifT1, k_ifT0, k_notV, k_not, a_yes, a_no, a_next, a_never, a_par, k_par, a_for, k_for, a_i1, k_i1, a_io, k_io, a_call, k_call, a_callP, k_callP, a_chain, k_chain, a_mut, k_mut, a_sto, k_sto, a_lc, k_lc, a_new, a_gN, a_gT, d_lt, d_le, d_gt, d_ge, d_intB, ev, rds, chk, pAny, pTup, pInt, takeA, wbE, permL, padE, outE, gNs, own_int, own_bl, own_str, own_non, own_tup, own_ins, own_frl, own_lst, own_dic, dTup, dLst, dAdd, dSub, dMulS, dDiv, dMod, dNeg, dInt, dAbs, dIsN, dNotN, D.isNon, dLen, dItems, dIx, dTru, D.tru, D.seq, fSetL, fAppend, sizeLine_eq, rg1, rg2, rg3, rg4, rg5, rg6, rg7, rg8, a_raise, k_raise, a_par3, k_par3, a_try, kt_ok, kt_exc, hdl, sEnd, dropN, inR, dRev, a_fz, k_fzL, k_fzF, k_fzT, a_fzS, k_fzS, k0, aD_own, bD_own, wipeE, lc, en, em, mnO, oD]

theorem mx_of {l : List Int} {c : Int} (h1 : c ∈ l) (h2 : ∀ y ∈ l, y ≤ c) : mx l = c := by
  have ne : l ≠ [] := List.ne_nil_of_mem h1
  obtain ⟨a, b⟩ := mx_spec ne
  have := h2 _ a
  have := b c h1
  omega

theorem d_lside (s : List Int) (x c : Int) (nd : s.Nodup) (hx : x ∈ s) (hl : s.length ≤ 40) (hc : gcO s x = some c) : F__law_side [some (.tup (s.map .int)), some (.int x)] = .ok (.int (if ixOf c s < ixOf x s then 0 else 1), [some (.tup (s.map .int)), some (.int x)]) := by
  have k := d_lspan s x hx hl
  have g := hi_lt hx
  have g2 := lo_hi (s := s) (x := x)
  have c2 := cut_11c s (lo s x) (hi s x) (by omega) g
  have ln := cut_len s (lo s x) (hi s x + 1) (by omega) (by omega)
  obtain ⟨⟨cm, cn, c3, c4⟩, cmax⟩ := gc_some nd hx hc
  have lc := lc_run (vs := [5]) (i := 5) (t := t__law_side_1) (u := u__law_side_2) (ρ := [some (.tup (s.map .int)), some (.int x), some (.int (lo s x)), some (.int (hi s x)), none, none])
    (b := fun d => match d with | .int y => !decide (y = x) | _ => false) (g := id) ((cut s (lo s x) (hi s x + 1)).map D.int) [] (fun d hd => by
      obtain ⟨y, hy, rfl⟩ := List.mem_map.mp hd
      have q := d_neI y x
      refine ⟨?_, fun _ => ⟨by simp [b_ok, b_stuck, b_exc, a_def, f_ok, f_exc, k_rt, k_nx, a_do, a_set, a_set2, a_drop, a_ret, a_unp, a_seq, k_seq, k_seqr, k_seqb, k_seqc, a_op, k_op, a_c, a_var, a_b, k_b, a_then, k_and1, k_and0, k_or1, k_or0, k_andV1, k_andV0, k_orV1, k_orV0, k_if1, k_if0, k_ifS1, k_ifS0, k_ifT1, k_ifT0, k_notV, k_not, a_yes, a_no, a_next, a_never, a_par, k_par, a_for, k_for, a_i1, k_i1, a_io, k_io, a_call, k_call, a_callP, k_callP, a_chain, k_chain, a_mut, k_mut, a_sto, k_sto, a_lc, k_lc, a_new, a_gN, a_gT, d_lt, d_le, d_gt, d_ge, d_intB, ev, rds, chk, pAny, pTup, pInt, takeA, wbE, permL, padE, outE, gNs, own_int, own_bl, own_str, own_non, own_tup, own_ins, own_frl, own_lst, own_dic, dTup, dLst, dAdd, dSub, dMulS, dDiv, dMod, dNeg, dInt, dAbs, dIsN, dNotN, D.isNon, dLen, dItems, dIx, dTru, D.tru, D.seq, fSetL, fAppend, sizeLine_eq, rg1, rg2, rg3, rg4, rg5, rg6, rg7, rg8, a_raise, k_raise, a_par3, k_par3, a_try, kt_ok, kt_exc, hdl, sEnd, dropN, inR, dRev, a_fz, k_fzL, k_fzF, k_fzT, a_fzS, k_fzS], rfl⟩, by simp [wipeE]⟩
      simp [b_ok, b_stuck, b_exc, a_def, f_ok, f_exc, k_rt, k_nx, a_do, a_set, a_set2, a_drop, a_ret, a_unp, a_seq, k_seq, k_seqr, k_seqb, k_seqc, a_op, k_op, a_c, a_var, a_b, k_b, a_then, k_and1, k_and0, k_or1, k_or0, k_andV1, k_andV0, k_orV1, k_orV0, k_if1, k_if0, k_ifS1, k_ifS0, k_ifT1, k_ifT0, k_notV, k_not, a_yes, a_no, a_next, a_never, a_par, k_par, a_for, k_for, a_i1, k_i1, a_io, k_io, a_call, k_call, a_callP, k_callP, a_chain, k_chain, a_mut, k_mut, a_sto, k_sto, a_lc, k_lc, a_new, a_gN, a_gT, d_lt, d_le, d_gt, d_ge, d_intB, ev, rds, chk, pAny, pTup, pInt, takeA, wbE, permL, padE, outE, gNs, own_int, own_bl, own_str, own_non, own_tup, own_ins, own_frl, own_lst, own_dic, dTup, dLst, dAdd, dSub, dMulS, dDiv, dMod, dNeg, dInt, dAbs, dIsN, dNotN, D.isNon, dLen, dItems, dIx, dTru, D.tru, D.seq, fSetL, fAppend, sizeLine_eq, rg1, rg2, rg3, rg4, rg5, rg6, rg7, rg8, a_raise, k_raise, a_par3, k_par3, a_try, kt_ok, kt_exc, hdl, sEnd, dropN, inR, dRev, a_fz, k_fzL, k_fzF, k_fzT, a_fzS, k_fzS, q]) (by simp [sizeLine_eq]; omega)
  rw [lst_filter_ints _ _ (fun y => !decide (y = x)) (fun y => rfl), List.nil_append] at lc
  have hm : mx ((cut s (lo s x) (hi s x + 1)).filter fun y => !decide (y = x)) = c := by
    refine mx_of (List.mem_filter.mpr ⟨mem_cut cm c3 (by omega) (by omega), by simpa using cn⟩) fun y hy => ?_
    obtain ⟨h1, h2⟩ := List.mem_filter.mp hy
    obtain ⟨i1, i2⟩ := cut_ix nd h1
    exact cmax y ⟨cut_mem h1, by simpa using h2, i1, by omega⟩
  have ne : ((cut s (lo s x) (hi s x + 1)).filter fun y => !decide (y = x)) ≠ [] := List.ne_nil_of_mem (List.mem_filter.mpr ⟨mem_cut cm c3 (by omega) (by omega), by simpa using cn⟩)
  have m1 := mx_lst ne
  rw [hm] at m1
  have x1 := ix_tup s c cm
  have x2 := ix_tup s x hx
  have nix := ix_ne hx cm cn
  generalize (cut s (lo s x) (hi s x + 1)).filter (fun y => !decide (y = x)) = W at *
  generalize cut s (lo s x) (hi s x + 1) = C at *
  unfold F__law_side m__law_side
  by_cases o : ixOf c s < ixOf x s
  · have o2 : ¬ ixOf x s < ixOf c s := by omega
    rw [if_pos o]
    simp [b_ok, b_stuck, b_exc, a_def, f_ok, f_exc, k_rt, k_nx, a_do, a_set, a_set2, a_drop, a_ret, a_unp, a_seq, k_seq, k_seqr, k_seqb, k_seqc, a_op, k_op, a_c, a_var, a_b, k_b, a_then, k_and1, k_and0, k_or1, k_or0, k_andV1, k_andV0, k_orV1, k_orV0, k_if1, k_if0, k_ifS1, k_ifS0, k_ifT1, k_ifT0, k_notV, k_not, a_yes, a_no, a_next, a_never, a_par, k_par, a_for, k_for, a_i1, k_i1, a_io, k_io, a_call, k_call, a_callP, k_callP, a_chain, k_chain, a_mut, k_mut, a_sto, k_sto, a_lc, k_lc, a_new, a_gN, a_gT, d_lt, d_le, d_gt, d_ge, d_intB, ev, rds, chk, pAny, pTup, pInt, takeA, wbE, permL, padE, outE, gNs, own_int, own_bl, own_str, own_non, own_tup, own_ins, own_frl, own_lst, own_dic, dTup, dLst, dAdd, dSub, dMulS, dDiv, dMod, dNeg, dInt, dAbs, dIsN, dNotN, D.isNon, dLen, dItems, dIx, dTru, D.tru, D.seq, fSetL, fAppend, sizeLine_eq, rg1, rg2, rg3, rg4, rg5, rg6, rg7, rg8, a_raise, k_raise, a_par3, k_par3, a_try, kt_ok, kt_exc, hdl, sEnd, dropN, inR, dRev, a_fz, k_fzL, k_fzF, k_fzT, a_fzS, k_fzS, k, c2, wipeE, lc, m1, x1, x2, o2]
  · have o2 : ixOf x s < ixOf c s := by omega
    rw [if_neg o]
    simp [b_ok, b_stuck, b_exc, a_def, f_ok, f_exc, k_rt, k_nx, a_do, a_set, a_set2, a_drop, a_ret, a_unp, a_seq, k_seq, k_seqr, k_seqb, k_seqc, a_op, k_op, a_c, a_var, a_b, k_b, a_then, k_and1, k_and0, k_or1, k_or0, k_andV1, k_andV0, k_orV1, k_orV0, k_if1, k_if0, k_ifS1, k_ifS0, k_ifT1, k_ifT0, k_notV, k_not, a_yes, a_no, a_next, a_never, a_par, k_par, a_for, k_for, a_i1, k_i1, a_io, k_io, a_call, k_call, a_callP, k_callP, a_chain, k_chain, a_mut, k_mut, a_sto, k_sto, a_lc, k_lc, a_new, a_gN, a_gT, d_lt, d_le, d_gt, d_ge, d_intB, ev, rds, chk, pAny, pTup, pInt, takeA, wbE, permL, padE, outE, gNs, own_int, own_bl, own_str, own_non, own_tup, own_ins, own_frl, own_lst, own_dic, dTup, dLst, dAdd, dSub, dMulS, dDiv, dMod, dNeg, dInt, dAbs, dIsN, dNotN, D.isNon, dLen, dItems, dIx, dTru, D.tru, D.seq, fSetL, fAppend, sizeLine_eq, rg1, rg2, rg3, rg4, rg5, rg6, rg7, rg8, a_raise, k_raise, a_par3, k_par3, a_try, kt_ok, kt_exc, hdl, sEnd, dropN, inR, dRev, a_fz, k_fzL, k_fzF, k_fzT, a_fzS, k_fzS, k, c2, wipeE, lc, m1, x1, x2, o2]

theorem d_lsense (s : List Int) (e x : Int) (nd : s.Nodup) (h1 : 0 ≤ e) (h2 : e ≤ 3) (hx : x ∈ s) (hl : s.length ≤ 40) (h : lo s x < hi s x) : F__law_sense [some (.tup (s.map .int)), some (.int e), some (.int x)] = .ok (.int (snsI s x), [some (.tup (s.map .int)), some (.int e), some (.int x)]) := by
  obtain ⟨c, hc, cm⟩ := kids_ne hx h
  have k1 := d_lparent s e x h1 h2 hx hl
  have k2 := d_lside s x c nd hx hl hc
  have x2 := ix_tup s x hx
  have sv : snsI s x = if (decide (ixOf c s < ixOf x s) != ahO s x (par s x)) = true then 1 else 0 := by unfold snsI sns; rw [hc]
  rw [sv]
  unfold F__law_sense m__law_sense
  have q0 : dEq [.int 0, .int 0] = some (.bl true) := by rw [d_eq]; rfl
  have q1 : dEq [.int 1, .int 0] = some (.bl false) := by rw [d_eq]; rfl
  cases hp : par s x with
  | none =>
    rw [hp] at k1
    rw [oD_none] at k1
    have a : ahO s x none = true := rfl
    rw [a]
    by_cases o : ixOf c s < ixOf x s
    · rw [if_pos o] at k2
      have b := d_neB (x := true) (y := true)
      simp [b_ok, b_stuck, b_exc, a_def, f_ok, f_exc, k_rt, k_nx, a_do, a_set, a_set2, a_drop, a_ret, a_unp, a_seq, k_seq, k_seqr, k_seqb, k_seqc, a_op, k_op, a_c, a_var, a_b, k_b, a_then, k_and1, k_and0, k_or1, k_or0, k_andV1, k_andV0, k_orV1, k_orV0, k_if1, k_if0, k_ifS1, k_ifS0, k_ifT1, k_ifT0, k_notV, k_not, a_yes, a_no, a_next, a_never, a_par, k_par, a_for, k_for, a_i1, k_i1, a_io, k_io, a_call, k_call, a_callP, k_callP, a_chain, k_chain, a_mut, k_mut, a_sto, k_sto, a_lc, k_lc, a_new, a_gN, a_gT, d_lt, d_le, d_gt, d_ge, d_intB, ev, rds, chk, pAny, pTup, pInt, takeA, wbE, permL, padE, outE, gNs, own_int, own_bl, own_str, own_non, own_tup, own_ins, own_frl, own_lst, own_dic, dTup, dLst, dAdd, dSub, dMulS, dDiv, dMod, dNeg, dInt, dAbs, dIsN, dNotN, D.isNon, dLen, dItems, dIx, dTru, D.tru, D.seq, fSetL, fAppend, sizeLine_eq, rg1, rg2, rg3, rg4, rg5, rg6, rg7, rg8, a_raise, k_raise, a_par3, k_par3, a_try, kt_ok, kt_exc, hdl, sEnd, dropN, inR, dRev, a_fz, k_fzL, k_fzF, k_fzT, a_fzS, k_fzS, k1, k2, q0, b, o]
    · rw [if_neg o] at k2
      have b := d_neB (x := false) (y := true)
      simp [b_ok, b_stuck, b_exc, a_def, f_ok, f_exc, k_rt, k_nx, a_do, a_set, a_set2, a_drop, a_ret, a_unp, a_seq, k_seq, k_seqr, k_seqb, k_seqc, a_op, k_op, a_c, a_var, a_b, k_b, a_then, k_and1, k_and0, k_or1, k_or0, k_andV1, k_andV0, k_orV1, k_orV0, k_if1, k_if0, k_ifS1, k_ifS0, k_ifT1, k_ifT0, k_notV, k_not, a_yes, a_no, a_next, a_never, a_par, k_par, a_for, k_for, a_i1, k_i1, a_io, k_io, a_call, k_call, a_callP, k_callP, a_chain, k_chain, a_mut, k_mut, a_sto, k_sto, a_lc, k_lc, a_new, a_gN, a_gT, d_lt, d_le, d_gt, d_ge, d_intB, ev, rds, chk, pAny, pTup, pInt, takeA, wbE, permL, padE, outE, gNs, own_int, own_bl, own_str, own_non, own_tup, own_ins, own_frl, own_lst, own_dic, dTup, dLst, dAdd, dSub, dMulS, dDiv, dMod, dNeg, dInt, dAbs, dIsN, dNotN, D.isNon, dLen, dItems, dIx, dTru, D.tru, D.seq, fSetL, fAppend, sizeLine_eq, rg1, rg2, rg3, rg4, rg5, rg6, rg7, rg8, a_raise, k_raise, a_par3, k_par3, a_try, kt_ok, kt_exc, hdl, sEnd, dropN, inR, dRev, a_fz, k_fzL, k_fzF, k_fzT, a_fzS, k_fzS, k1, k2, q1, b, o]
  | some p =>
    rw [hp] at k1
    rw [oD_some] at k1
    have x3 := ix_tup s p (par_mem hx p hp)
    have a : ahO s x (some p) = decide (ixOf x s < ixOf p s) := rfl
    rw [a]
    by_cases o : ixOf c s < ixOf x s
    · rw [if_pos o] at k2
      by_cases o2 : ixOf x s < ixOf p s
      · have b := d_neB (x := true) (y := true)
        simp [b_ok, b_stuck, b_exc, a_def, f_ok, f_exc, k_rt, k_nx, a_do, a_set, a_set2, a_drop, a_ret, a_unp, a_seq, k_seq, k_seqr, k_seqb, k_seqc, a_op, k_op, a_c, a_var, a_b, k_b, a_then, k_and1, k_and0, k_or1, k_or0, k_andV1, k_andV0, k_orV1, k_orV0, k_if1, k_if0, k_ifS1, k_ifS0, k_ifT1, k_ifT0, k_notV, k_not, a_yes, a_no, a_next, a_never, a_par, k_par, a_for, k_for, a_i1, k_i1, a_io, k_io, a_call, k_call, a_callP, k_callP, a_chain, k_chain, a_mut, k_mut, a_sto, k_sto, a_lc, k_lc, a_new, a_gN, a_gT, d_lt, d_le, d_gt, d_ge, d_intB, ev, rds, chk, pAny, pTup, pInt, takeA, wbE, permL, padE, outE, gNs, own_int, own_bl, own_str, own_non, own_tup, own_ins, own_frl, own_lst, own_dic, dTup, dLst, dAdd, dSub, dMulS, dDiv, dMod, dNeg, dInt, dAbs, dIsN, dNotN, D.isNon, dLen, dItems, dIx, dTru, D.tru, D.seq, fSetL, fAppend, sizeLine_eq, rg1, rg2, rg3, rg4, rg5, rg6, rg7, rg8, a_raise, k_raise, a_par3, k_par3, a_try, kt_ok, kt_exc, hdl, sEnd, dropN, inR, dRev, a_fz, k_fzL, k_fzF, k_fzT, a_fzS, k_fzS, k1, k2, q0, b, o, o2, x2, x3]
      · have b := d_neB (x := true) (y := false)
        simp [b_ok, b_stuck, b_exc, a_def, f_ok, f_exc, k_rt, k_nx, a_do, a_set, a_set2, a_drop, a_ret, a_unp, a_seq, k_seq, k_seqr, k_seqb, k_seqc, a_op, k_op, a_c, a_var, a_b, k_b, a_then, k_and1, k_and0, k_or1, k_or0, k_andV1, k_andV0, k_orV1, k_orV0, k_if1, k_if0, k_ifS1, k_ifS0, k_ifT1, k_ifT0, k_notV, k_not, a_yes, a_no, a_next, a_never, a_par, k_par, a_for, k_for, a_i1, k_i1, a_io, k_io, a_call, k_call, a_callP, k_callP, a_chain, k_chain, a_mut, k_mut, a_sto, k_sto, a_lc, k_lc, a_new, a_gN, a_gT, d_lt, d_le, d_gt, d_ge, d_intB, ev, rds, chk, pAny, pTup, pInt, takeA, wbE, permL, padE, outE, gNs, own_int, own_bl, own_str, own_non, own_tup, own_ins, own_frl, own_lst, own_dic, dTup, dLst, dAdd, dSub, dMulS, dDiv, dMod, dNeg, dInt, dAbs, dIsN, dNotN, D.isNon, dLen, dItems, dIx, dTru, D.tru, D.seq, fSetL, fAppend, sizeLine_eq, rg1, rg2, rg3, rg4, rg5, rg6, rg7, rg8, a_raise, k_raise, a_par3, k_par3, a_try, kt_ok, kt_exc, hdl, sEnd, dropN, inR, dRev, a_fz, k_fzL, k_fzF, k_fzT, a_fzS, k_fzS, k1, k2, q0, b, o, o2, x2, x3]
    · rw [if_neg o] at k2
      by_cases o2 : ixOf x s < ixOf p s
      · have b := d_neB (x := false) (y := true)
        simp [b_ok, b_stuck, b_exc, a_def, f_ok, f_exc, k_rt, k_nx, a_do, a_set, a_set2, a_drop, a_ret, a_unp, a_seq, k_seq, k_seqr, k_seqb, k_seqc, a_op, k_op, a_c, a_var, a_b, k_b, a_then, k_and1, k_and0, k_or1, k_or0, k_andV1, k_andV0, k_orV1, k_orV0, k_if1, k_if0, k_ifS1, k_ifS0, k_ifT1, k_ifT0, k_notV, k_not, a_yes, a_no, a_next, a_never, a_par, k_par, a_for, k_for, a_i1, k_i1, a_io, k_io, a_call, k_call, a_callP, k_callP, a_chain, k_chain, a_mut, k_mut, a_sto, k_sto, a_lc, k_lc, a_new, a_gN, a_gT, d_lt, d_le, d_gt, d_ge, d_intB, ev, rds, chk, pAny, pTup, pInt, takeA, wbE, permL, padE, outE, gNs, own_int, own_bl, own_str, own_non, own_tup, own_ins, own_frl, own_lst, own_dic, dTup, dLst, dAdd, dSub, dMulS, dDiv, dMod, dNeg, dInt, dAbs, dIsN, dNotN, D.isNon, dLen, dItems, dIx, dTru, D.tru, D.seq, fSetL, fAppend, sizeLine_eq, rg1, rg2, rg3, rg4, rg5, rg6, rg7, rg8, a_raise, k_raise, a_par3, k_par3, a_try, kt_ok, kt_exc, hdl, sEnd, dropN, inR, dRev, a_fz, k_fzL, k_fzF, k_fzT, a_fzS, k_fzS, k1, k2, q1, b, o, o2, x2, x3]
      · have b := d_neB (x := false) (y := false)
        simp [b_ok, b_stuck, b_exc, a_def, f_ok, f_exc, k_rt, k_nx, a_do, a_set, a_set2, a_drop, a_ret, a_unp, a_seq, k_seq, k_seqr, k_seqb, k_seqc, a_op, k_op, a_c, a_var, a_b, k_b, a_then, k_and1, k_and0, k_or1, k_or0, k_andV1, k_andV0, k_orV1, k_orV0, k_if1, k_if0, k_ifS1, k_ifS0, k_ifT1, k_ifT0, k_notV, k_not, a_yes, a_no, a_next, a_never, a_par, k_par, a_for, k_for, a_i1, k_i1, a_io, k_io, a_call, k_call, a_callP, k_callP, a_chain, k_chain, a_mut, k_mut, a_sto, k_sto, a_lc, k_lc, a_new, a_gN, a_gT, d_lt, d_le, d_gt, d_ge, d_intB, ev, rds, chk, pAny, pTup, pInt, takeA, wbE, permL, padE, outE, gNs, own_int, own_bl, own_str, own_non, own_tup, own_ins, own_frl, own_lst, own_dic, dTup, dLst, dAdd, dSub, dMulS, dDiv, dMod, dNeg, dInt, dAbs, dIsN, dNotN, D.isNon, dLen, dItems, dIx, dTru, D.tru, D.seq, fSetL, fAppend, sizeLine_eq, rg1, rg2, rg3, rg4, rg5, rg6, rg7, rg8, a_raise, k_raise, a_par3, k_par3, a_try, kt_ok, kt_exc, hdl, sEnd, dropN, inR, dRev, a_fz, k_fzL, k_fzF, k_fzT, a_fzS, k_fzS, k1, k2, q1, b, o, o2, x2, x3]

theorem shuf_out (a b : Int) (X : D) (L F : List Int) (h : Src a b) (hl : L.length < 1000) (h0 : 0 < L.length) (hf : F.length < 1000) : ∃ a' b' t, ∃ ht : t < L.length, Src a' b' ∧
    b__law_shuffled_2 [some (src a b), some X, some (.lst (L.map .int)), some (.lst (F.map .int))] = .ok (.nx, [some (src a' b'), some X, some (.lst ((L.eraseIdx t).map .int)), some (.lst ((F ++ [L[t]]).map .int))]) := by
  obtain ⟨a5, b5, t, s5, t1, t2, e5⟩ := e_take a b L.length h (by omega) (by omega)
  obtain ⟨t, rfl⟩ : ∃ k : Nat, t = k := ⟨t.toNat, by omega⟩
  have ht : t < L.length := by omega
  refine ⟨a5, b5, t, ht, s5, ?_⟩
  have lf : F.length < 16777216 := by omega
  have ep : fPopAt (L.map D.int) [.int t] = some ((L.eraseIdx t).map D.int, .int L[t]) := by
    rw [pop_at (L.map D.int) t (by rw [List.length_map]; exact ht) (by rw [List.length_map]; exact hl), erase_map, List.getElem_map]
  have inner : mMut 2 [.tmp (mCall [.var 0 pAny, .tmp (mOp [.var 2 pAny] dLen) pAny] F__law_take) pAny] fPopAt [some (src a b), some X, some (.lst (L.map .int)), some (.lst (F.map .int))]
      = .ok (.int L[t], [some (src a5 b5), some X, some (.lst ((L.eraseIdx t).map .int)), some (.lst (F.map .int))]) := by
    have call : mCall [.var 0 pAny, .tmp (mOp [.var 2 pAny] dLen) pAny] F__law_take [some (src a b), some X, some (.lst (L.map .int)), some (.lst (F.map .int))]
        = .ok (.int t, [some (src a5 b5), some X, some (.lst (L.map .int)), some (.lst (F.map .int))]) := by
      simp [b_ok, b_stuck, b_exc, a_def, f_ok, f_exc, k_rt, k_nx, a_do, a_set, a_set2, a_drop, a_ret, a_unp, a_seq, k_seq, k_seqr, k_seqb, k_seqc, a_op, k_op, a_c, a_var, a_b, k_b, a_then, k_and1, k_and0, k_or1, k_or0, k_andV1, k_andV0, k_orV1, k_orV0, k_if1, k_if0, k_ifS1, k_ifS0, k_ifT1, k_ifT0, k_notV, k_not, a_yes, a_no, a_next, a_never, a_par, k_par, a_for, k_for, a_i1, k_i1, a_io, k_io, a_call, k_call, a_callP, k_callP, a_chain, k_chain, a_mut, k_mut, a_sto, k_sto, a_lc, k_lc, a_new, a_gN, a_gT, d_lt, d_le, d_gt, d_ge, d_intB, ev, rds, chk, pAny, pTup, pInt, takeA, wbE, permL, padE, outE, gNs, own_int, own_bl, own_str, own_non, own_tup, own_ins, own_frl, own_lst, own_dic, dTup, dLst, dAdd, dSub, dMulS, dDiv, dMod, dNeg, dInt, dAbs, dIsN, dNotN, D.isNon, dLen, dItems, dIx, dTru, D.tru, D.seq, fSetL, fAppend, sizeLine_eq, rg1, rg2, rg3, rg4, rg5, rg6, rg7, rg8, a_raise, k_raise, a_par3, k_par3, a_try, kt_ok, kt_exc, hdl, sEnd, dropN, inR, dRev, a_fz, k_fzL, k_fzF, k_fzT, a_fzS, k_fzS, e5]
    exact mut_run (ρ1 := [some (src a5 b5), some X, some (.lst (L.map .int)), some (.lst (F.map .int))]) (ps := [some (.int t)]) (ds := [.int t]) rfl (by simp only [ev, call, b_ok, chk, pAny, if_true]) rfl rfl ep
  have app : fAppend (F.map D.int) [.int L[t]] = some ((F ++ [L[t]]).map D.int, .non) := by
    simp [fAppend, own_int, sizeLine_eq, lf]
  unfold b__law_shuffled_2
  rw [a_do, mut_run (ρ1 := [some (src a5 b5), some X, some (.lst ((L.eraseIdx t).map .int)), some (.lst (F.map .int))]) (ps := [some (.int L[t])]) (ds := [.int L[t]]) rfl (by simp only [ev, inner, b_ok, chk, pAny, if_true]) rfl rfl app]
  rfl

theorem shuf_run (X : D) : ∀ (k : Nat) (a b : Int) (L F : List Int), Src a b → L.length < k → L.length + F.length < 1000 → ∃ (a' b' : Int) (G : List Int), Src a' b' ∧ G.Perm (L ++ F) ∧
    whileN t__law_shuffled_1 b__law_shuffled_2 k [some (src a b), some X, some (.lst (L.map .int)), some (.lst (F.map .int))] = .ok (.nx, [some (src a' b'), some X, some (.lst []), some (.lst (G.map .int))])
  | 0, _, _, _, _, _, h, _ => absurd h (Nat.not_lt_zero _)
  | k + 1, a, b, L, F, h, hk, hz => by
    have nn := ne_nil L
    unfold whileN
    by_cases c : L = []
    · subst c
      refine ⟨a, b, F, h, List.Perm.refl _, ?_⟩
      simp only [List.map_nil] at nn ⊢
      simp [b_ok, b_stuck, b_exc, a_def, f_ok, f_exc, k_rt, k_nx, a_do, a_set, a_set2, a_drop, a_ret, a_unp, a_seq, k_seq, k_seqr, k_seqb, k_seqc, a_op, k_op, a_c, a_var, a_b, k_b, a_then, k_and1, k_and0, k_or1, k_or0, k_andV1, k_andV0, k_orV1, k_orV0, k_if1, k_if0, k_ifS1, k_ifS0, k_ifT1, k_ifT0, k_notV, k_not, a_yes, a_no, a_next, a_never, a_par, k_par, a_for, k_for, a_i1, k_i1, a_io, k_io, a_call, k_call, a_callP, k_callP, a_chain, k_chain, a_mut, k_mut, a_sto, k_sto, a_lc, k_lc, a_new, a_gN, a_gT, d_lt, d_le, d_gt, d_ge, d_intB, ev, rds, chk, pAny, pTup, pInt, takeA, wbE, permL, padE, outE, gNs, own_int, own_bl, own_str, own_non, own_tup, own_ins, own_frl, own_lst, own_dic, dTup, dLst, dAdd, dSub, dMulS, dDiv, dMod, dNeg, dInt, dAbs, dIsN, dNotN, D.isNon, dLen, dItems, dIx, dTru, D.tru, D.seq, fSetL, fAppend, sizeLine_eq, rg1, rg2, rg3, rg4, rg5, rg6, rg7, rg8, a_raise, k_raise, a_par3, k_par3, a_try, kt_ok, kt_exc, hdl, sEnd, dropN, inR, dRev, a_fz, k_fzL, k_fzF, k_fzT, a_fzS, k_fzS, nn]
    · have h0 : 0 < L.length := List.length_pos_iff.mpr c
      have ce : L.isEmpty = false := by cases L with | nil => exact absurd rfl c | cons _ _ => rfl
      rw [ce] at nn
      obtain ⟨a1, b1, t, ht, s1, e1⟩ := shuf_out a b X L F h (by omega) h0 (by omega)
      have le : (L.eraseIdx t).length = L.length - 1 := by rw [List.length_eraseIdx, if_pos ht]
      obtain ⟨a2, b2, G, s2, pm, e2⟩ := shuf_run X k a1 b1 (L.eraseIdx t) (F ++ [L[t]]) s1 (by omega) (by rw [List.length_append, List.length_singleton]; omega)
      have pm1 : (L[t] :: L.eraseIdx t).Perm L := perm_erase L t ht
      have pm2 : (L.eraseIdx t ++ (F ++ [L[t]])).Perm (L ++ F) := by
        have h1 : (L.eraseIdx t ++ (F ++ [L[t]])).Perm (L[t] :: (L.eraseIdx t ++ F)) := by
          rw [← List.append_assoc]
          exact List.perm_append_comm
        exact h1.trans (List.Perm.append_right F pm1)
      refine ⟨a2, b2, G, s2, pm.trans pm2, ?_⟩
      have et : t__law_shuffled_1 [some (src a b), some X, some (.lst (L.map .int)), some (.lst (F.map .int))] = .ok (true, [some (src a b), some X, some (.lst (L.map .int)), some (.lst (F.map .int))]) := by
        simp [b_ok, b_stuck, b_exc, a_def, f_ok, f_exc, k_rt, k_nx, a_do, a_set, a_set2, a_drop, a_ret, a_unp, a_seq, k_seq, k_seqr, k_seqb, k_seqc, a_op, k_op, a_c, a_var, a_b, k_b, a_then, k_and1, k_and0, k_or1, k_or0, k_andV1, k_andV0, k_orV1, k_orV0, k_if1, k_if0, k_ifS1, k_ifS0, k_ifT1, k_ifT0, k_notV, k_not, a_yes, a_no, a_next, a_never, a_par, k_par, a_for, k_for, a_i1, k_i1, a_io, k_io, a_call, k_call, a_callP, k_callP, a_chain, k_chain, a_mut, k_mut, a_sto, k_sto, a_lc, k_lc, a_new, a_gN, a_gT, d_lt, d_le, d_gt, d_ge, d_intB, ev, rds, chk, pAny, pTup, pInt, takeA, wbE, permL, padE, outE, gNs, own_int, own_bl, own_str, own_non, own_tup, own_ins, own_frl, own_lst, own_dic, dTup, dLst, dAdd, dSub, dMulS, dDiv, dMod, dNeg, dInt, dAbs, dIsN, dNotN, D.isNon, dLen, dItems, dIx, dTru, D.tru, D.seq, fSetL, fAppend, sizeLine_eq, rg1, rg2, rg3, rg4, rg5, rg6, rg7, rg8, a_raise, k_raise, a_par3, k_par3, a_try, kt_ok, kt_exc, hdl, sEnd, dropN, inR, dRev, a_fz, k_fzL, k_fzF, k_fzT, a_fzS, k_fzS, nn]
      rw [et]
      show (b__law_shuffled_2 _).bind _ = _
      rw [e1]
      exact e2

theorem e_lshuffled (a b : Int) (L : List Int) (h : Src a b) (hl : L.length < 900) : ∃ (a' b' : Int) (G : List Int), Src a' b' ∧ G.Perm L ∧ F__law_shuffled [some (src a b), some (.lst (L.map .int))] = .ok (.tup (G.map .int), [some (src a' b'), some (.lst (L.map .int))]) := by
  obtain ⟨a1, b1, G, s1, pm, e1⟩ := shuf_run (.lst (L.map .int)) fuel a b L [] h (by unfold fuel; omega) (by simp; omega)
  rw [List.append_nil] at pm
  have ew : mWhile t__law_shuffled_1 b__law_shuffled_2 [some (src a b), some (.lst (L.map .int)), some (.lst (L.map .int)), some (.lst [])] = .ok (.nx, [some (src a1 b1), some (.lst (L.map .int)), some (.lst []), some (.lst (G.map .int))]) := e1
  have dl : dLstOf [.lst (L.map D.int)] = some (.lst (L.map D.int)) := rfl
  refine ⟨a1, b1, G, s1, pm, ?_⟩
  unfold F__law_shuffled m__law_shuffled
  simp [b_ok, b_stuck, b_exc, a_def, f_ok, f_exc, k_rt, k_nx, a_do, a_set, a_set2, a_drop, a_ret, a_unp, a_seq, k_seq, k_seqr, k_seqb, k_seqc, a_op, k_op, a_c, a_var, a_b, k_b, a_then, k_and1, k_and0, k_or1, k_or0, k_andV1, k_andV0, k_orV1, k_orV0, k_if1, k_if0, k_ifS1, k_ifS0, k_ifT1, k_ifT0, k_notV, k_not, a_yes, a_no, a_next, a_never, a_par, k_par, a_for, k_for, a_i1, k_i1, a_io, k_io, a_call, k_call, a_callP, k_callP, a_chain, k_chain, a_mut, k_mut, a_sto, k_sto, a_lc, k_lc, a_new, a_gN, a_gT, d_lt, d_le, d_gt, d_ge, d_intB, ev, rds, chk, pAny, pTup, pInt, takeA, wbE, permL, padE, outE, gNs, own_int, own_bl, own_str, own_non, own_tup, own_ins, own_frl, own_lst, own_dic, dTup, dLst, dAdd, dSub, dMulS, dDiv, dMod, dNeg, dInt, dAbs, dIsN, dNotN, D.isNon, dLen, dItems, dIx, dTru, D.tru, D.seq, fSetL, fAppend, sizeLine_eq, rg1, rg2, rg3, rg4, rg5, rg6, rg7, rg8, a_raise, k_raise, a_par3, k_par3, a_try, kt_ok, kt_exc, hdl, sEnd, dropN, inR, dRev, a_fz, k_fzL, k_fzF, k_fzT, a_fzS, k_fzS, dl, ↓ew, dTupOf_lst]

theorem p12 : dPow [.int 10, .int 12] = some (.int 1000000000000) := by
  have h : L2.CPow 10 12 := by unfold L2.CPow; decide
  show (if L2.CPow 10 12 then some (D.int (10 ^ (12 : Int).toNat)) else none) = _
  rw [if_pos h]
  rfl

theorem q12 (ρ : TV.Env) : mOp [.tmp (mC (.int 10)) pAny, .tmp (mC (.int 12)) pAny] dPow ρ = .ok (.int 1000000000000, ρ) := op_run (ps := [some (.int 10), some (.int 12)]) (ds := [.int 10, .int 12]) rfl rfl p12

theorem d_lstones (a b : Int) (n : Nat) (h : Src a b) (h1 : 1 ≤ n) (h2 : n ≤ 40) : ∃ a' b' s, Src a' b' ∧ okS s ∧ s.length = n ∧ F__law_stones [some (src a b), some (.int n)] = .ok (.tup (s.map .int), [some (src a' b'), some (.int n)]) := by
  obtain ⟨a1, b1, t, s1, t1, t2, e1⟩ := e_take a b 2001 h (by decide) (by decide)
  obtain ⟨a2, b2, x0, s2, hx, e2⟩ := e_one a1 b1 [1, -(n : Int), t - 1000, -999999999999993] s1 (by simp) (by simp)
  obtain ⟨a3, b3, far, s3, hf, e3⟩ := e_one a2 b2 [1, 1, 2, 9, 1000000000000] s2 (by simp) (by simp)
  simp only [List.map_cons, List.map_nil] at e2 e3
  have hx : 7 - 1000000000000000 ≤ x0 ∧ x0 ≤ 1001 := by simp at hx; omega
  have hf : 0 < far ∧ far ≤ 1000000000000 := by simp at hf; omega
  let I : Nat → TV.Env → Prop := fun k ρ => ∃ (a b : Int) (L : List Int) (x : Int) (o : Option D), Src a b ∧ L.length = k ∧ L.Nodup ∧ (∀ y ∈ L, x0 ≤ y ∧ y < x) ∧ x0 ≤ x ∧ x ≤ x0 + 1000000000000 * k ∧ ρ = [some (src a b), some (.int n), some (.int x), some (.lst (L.map .int)), some (.int far), o]
  have run := for_inv (tg := gN 5) (b := b__law_stones_1) (I := I) (dRng 0 n) 0 [some (src a3 b3), some (.int n), some (.int x0), some (.lst []), some (.int far), none] (fun j d ρ hd hI => ?_) ⟨a3, b3, [], x0, none, s3, rfl, by simp, by simp, by omega, by omega, rfl⟩
  · obtain ⟨ρ1, e4, a4, b4, L, x, o, s4, l4, nd, bd, x1, x2, rfl⟩ := run
    have ln : (dRng 0 n).length = n := by simp [dRng]
    rw [ln, Nat.zero_add] at l4 x2
    obtain ⟨a5, b5, G, s5, pm, e5⟩ := e_lshuffled a4 b4 L s4 (by omega)
    have er : ∀ ρ : TV.Env, ρ[1]? = some (some (.int n)) → mIO [.var 1 pAny] dR1 ρ = .ok (dRng 0 n, ρ) := fun ρ h => io_run (ds := [.int n]) (ps := [none]) (by simp [ev, h, chk, pAny, R.bind]) (by simp [rds, h]) (range_1 n (by omega))
    have gl := pm.length_eq
    refine ⟨a5, b5, G, s5, ⟨pm.nodup_iff.mpr nd, by omega, by omega, fun y hy => ?_⟩, by omega, ?_⟩
    · have := bd y (pm.mem_iff.mp hy)
      have : (n : Int) ≤ 40 := by omega
      omega
    · unfold F__law_stones m__law_stones
      simp [b_ok, b_stuck, b_exc, a_def, f_ok, f_exc, k_rt, k_nx, a_do, a_set, a_set2, a_drop, a_ret, a_unp, a_seq, k_seq, k_seqr, k_seqb, k_seqc, a_op, k_op, a_c, a_var, a_b, k_b, a_then, k_and1, k_and0, k_or1, k_or0, k_andV1, k_andV0, k_orV1, k_orV0, k_if1, k_if0, k_ifS1, k_ifS0, k_ifT1, k_ifT0, k_notV, k_not, a_yes, a_no, a_next, a_never, a_par, k_par, a_for, k_for, a_i1, k_i1, a_io, k_io, a_call, k_call, a_callP, k_callP, a_chain, k_chain, a_mut, k_mut, a_sto, k_sto, a_lc, k_lc, a_new, a_gN, a_gT, d_lt, d_le, d_gt, d_ge, d_intB, ev, rds, chk, pAny, pTup, pInt, takeA, wbE, permL, padE, outE, gNs, own_int, own_bl, own_str, own_non, own_tup, own_ins, own_frl, own_lst, own_dic, dTup, dLst, dAdd, dSub, dMulS, dDiv, dMod, dNeg, dInt, dAbs, dIsN, dNotN, D.isNon, dLen, dItems, dIx, dTru, D.tru, D.seq, fSetL, fAppend, sizeLine_eq, rg1, rg2, rg3, rg4, rg5, rg6, rg7, rg8, a_raise, k_raise, a_par3, k_par3, a_try, kt_ok, kt_exc, hdl, sEnd, dropN, inR, dRev, a_fz, k_fzL, k_fzF, k_fzT, a_fzS, k_fzS, e1, ↓q15, ↓q12, e2, e3, ↓er, ↓e4, e5]
  · obtain ⟨a4, b4, L, x, o, s4, l4, nd, bd, x1, x2, rfl⟩ := hI
    obtain ⟨hj, rfl⟩ := dRng_get hd
    obtain ⟨a5, b5, u, s5, u1, u2, e5⟩ := e_take a4 b4 far s4 hf.1 (by omega)
    have lf : L.length < 16777216 := by omega
    refine ⟨_, [some (src a5 b5), some (.int n), some (.int (x + 1 + u)), some (.lst ((L ++ [x]).map .int)), some (.int far), some (.int ((0 + j : Nat) : Int))], rfl, ?_, a5, b5, L ++ [x], x + 1 + u, _, s5, by simp [l4], ?_, fun y hy => ?_, by omega, by omega, rfl⟩
    · simp [b__law_stones_1, b_ok, b_stuck, b_exc, a_def, f_ok, f_exc, k_rt, k_nx, a_do, a_set, a_set2, a_drop, a_ret, a_unp, a_seq, k_seq, k_seqr, k_seqb, k_seqc, a_op, k_op, a_c, a_var, a_b, k_b, a_then, k_and1, k_and0, k_or1, k_or0, k_andV1, k_andV0, k_orV1, k_orV0, k_if1, k_if0, k_ifS1, k_ifS0, k_ifT1, k_ifT0, k_notV, k_not, a_yes, a_no, a_next, a_never, a_par, k_par, a_for, k_for, a_i1, k_i1, a_io, k_io, a_call, k_call, a_callP, k_callP, a_chain, k_chain, a_mut, k_mut, a_sto, k_sto, a_lc, k_lc, a_new, a_gN, a_gT, d_lt, d_le, d_gt, d_ge, d_intB, ev, rds, chk, pAny, pTup, pInt, takeA, wbE, permL, padE, outE, gNs, own_int, own_bl, own_str, own_non, own_tup, own_ins, own_frl, own_lst, own_dic, dTup, dLst, dAdd, dSub, dMulS, dDiv, dMod, dNeg, dInt, dAbs, dIsN, dNotN, D.isNon, dLen, dItems, dIx, dTru, D.tru, D.seq, fSetL, fAppend, sizeLine_eq, rg1, rg2, rg3, rg4, rg5, rg6, rg7, rg8, a_raise, k_raise, a_par3, k_par3, a_try, kt_ok, kt_exc, hdl, sEnd, dropN, inR, dRev, a_fz, k_fzL, k_fzF, k_fzT, a_fzS, k_fzS, e5, lf]
    · rw [List.nodup_append]
      exact ⟨nd, by simp, fun y hy z hz e => by cases List.mem_singleton.mp hz; have := bd y hy; omega⟩
    · rcases List.mem_append.mp hy with h | h
      · have := bd y h; omega
      · cases List.mem_singleton.mp h; omega

end K58

namespace K58
open PySem TV
theorem kvs_true : ∀ ls : List Int, dKvs (ls.map fun n => D.tup [.int n, .bl true]) = some (ls.map fun n => ((Sum.inl n : L2.Key), D.bl true))
  | [] => rfl
  | n :: ls => by
    rw [List.map_cons, List.map_cons]
    unfold dKvs
    rw [kvs_true ls]
    rfl

theorem dic_fold : ∀ (ls ks : List Int) (ds : List D), okK ks → (∀ n ∈ ls, 2 ≤ n ∧ n ≤ 40) → ks.length + ls.length < 900 → ∃ (ks' : List Int) (ds' : List D), okK ks' ∧ ks'.length ≤ ks.length + ls.length ∧ (ls.map fun n => ((Sum.inl n : L2.Key), D.bl true)).foldl stepD (.dic (ks.map Sum.inl) ds) = .dic (ks'.map Sum.inl) ds'
  | [], ks, ds, h, _, _ => ⟨ks, ds, h, Nat.le_refl _, rfl⟩
  | n :: ls, ks, ds, h, hb, hz => by
    rw [List.length_cons] at hz ⊢
    obtain ⟨k1, d1, o1, l1, e1⟩ := put_key ks ds n h (hb n List.mem_cons_self) (by omega)
    have hs : ks.length < sizeLine := by rw [sizeLine_eq]; omega
    have e0 : fSetD (.dic (ks.map Sum.inl) ds) (.int n) (.bl true) = some (dPutK (ks.map Sum.inl) ds (.inl n) (.bl true)) := by
      simp [fSetD, dKey, own_bl, hs]
    rw [e0] at e1
    have e1 := Option.some.inj e1
    obtain ⟨k2, d2, o2, l2, e2⟩ := dic_fold ls k1 d1 o1 (fun m hm => hb m (List.mem_cons_of_mem _ hm)) (by omega)
    refine ⟨k2, d2, o2, by omega, ?_⟩
    rw [List.map_cons, List.foldl_cons]
    show List.foldl stepD (dPutK (ks.map Sum.inl) ds (.inl n) (.bl true)) _ = _
    rw [e1]
    exact e2

theorem dic_of (ls : List Int) (hb : ∀ n ∈ ls, 2 ≤ n ∧ n ≤ 40) (hz : ls.length ≤ 40) : ∃ (ks : List Int) (ds : List D), okK ks ∧ ks.length ≤ 40 ∧ dDicOf [.lst (ls.map fun n => D.tup [.int n, .bl true])] = some (.dic (ks.map Sum.inl) ds) := by
  obtain ⟨ks, ds, o, l, e⟩ := dic_fold ls [] [] ⟨by simp, by simp⟩ hb (by simp; omega)
  refine ⟨ks, ds, o, by simp at l; omega, ?_⟩
  show (dKvs _).map _ = _
  rw [kvs_true]
  exact congrArg some e

theorem d_lrule (a b : Int) (s : List Int) (e : Int) (h : Src a b) (h1 : 0 ≤ e) (h2 : e ≤ 3) (hl : s.length ≤ 40) : ∃ (a' b' : Int) (r : Option (List Int)), Src a' b' ∧ okR r ∧ F__law_rule [some (src a b), some (.tup (s.map .int)), some (.int e)] = .ok (rD r, [some (src a' b'), some (.tup (s.map .int)), some (.int e)]) := by
  have k0 := d_lheads s e h1 h2 hl
  have hz := heads_len s e
  have lb : ∀ x ∈ heads s e, 2 ≤ len s x ∧ len s x ≤ 40 := fun x hx => by
    obtain ⟨xm, xl⟩ := heads_lt x hx
    have := hi_lt xm
    unfold len
    omega
  have lc1 := lc_run (vs := [5]) (i := 5) (t := mYes) (u := u__law_rule_1) (ρ := [some (src a b), some (.tup (s.map .int)), some (.int e), none, none, none, none])
    (b := fun _ => true) (g := fun d => match d with | .int x => D.int (len s x) | d => d) ((heads s e).map D.int) [] (fun d hd => by
      obtain ⟨x, hx, rfl⟩ := List.mem_map.mp hd
      have k := d_llen s x (heads_mem hx) hl
      refine ⟨by simp [b_ok, b_stuck, b_exc, a_def, f_ok, f_exc, k_rt, k_nx, a_do, a_set, a_set2, a_drop, a_ret, a_unp, a_seq, k_seq, k_seqr, k_seqb, k_seqc, a_op, k_op, a_c, a_var, a_b, k_b, a_then, k_and1, k_and0, k_or1, k_or0, k_andV1, k_andV0, k_orV1, k_orV0, k_if1, k_if0, k_ifS1, k_ifS0, k_ifT1, k_ifT0, k_notV, k_not, a_yes, a_no, a_next, a_never, a_par, k_par, a_for, k_for, a_i1, k_i1, a_io, k_io, a_call, k_call, a_callP, k_callP, a_chain, k_chain, a_mut, k_mut, a_sto, k_sto, a_lc, k_lc, a_new, a_gN, a_gT, d_lt, d_le, d_gt, d_ge, d_intB, ev, rds, chk, pAny, pTup, pInt, takeA, wbE, permL, padE, outE, gNs, own_int, own_bl, own_str, own_non, own_tup, own_ins, own_frl, own_lst, own_dic, dTup, dLst, dAdd, dSub, dMulS, dDiv, dMod, dNeg, dInt, dAbs, dIsN, dNotN, D.isNon, dLen, dItems, dIx, dTru, D.tru, D.seq, fSetL, fAppend, sizeLine_eq, rg1, rg2, rg3, rg4, rg5, rg6, rg7, rg8, a_raise, k_raise, a_par3, k_par3, a_try, kt_ok, kt_exc, hdl, sEnd, dropN, inR, dRev, a_fz, k_fzL, k_fzF, k_fzT, a_fzS, k_fzS], fun _ => ⟨by simp [u__law_rule_1, b_ok, b_stuck, b_exc, a_def, f_ok, f_exc, k_rt, k_nx, a_do, a_set, a_set2, a_drop, a_ret, a_unp, a_seq, k_seq, k_seqr, k_seqb, k_seqc, a_op, k_op, a_c, a_var, a_b, k_b, a_then, k_and1, k_and0, k_or1, k_or0, k_andV1, k_andV0, k_orV1, k_orV0, k_if1, k_if0, k_ifS1, k_ifS0, k_ifT1, k_ifT0, k_notV, k_not, a_yes, a_no, a_next, a_never, a_par, k_par, a_for, k_for, a_i1, k_i1, a_io, k_io, a_call, k_call, a_callP, k_callP, a_chain, k_chain, a_mut, k_mut, a_sto, k_sto, a_lc, k_lc, a_new, a_gN, a_gT, d_lt, d_le, d_gt, d_ge, d_intB, ev, rds, chk, pAny, pTup, pInt, takeA, wbE, permL, padE, outE, gNs, own_int, own_bl, own_str, own_non, own_tup, own_ins, own_frl, own_lst, own_dic, dTup, dLst, dAdd, dSub, dMulS, dDiv, dMod, dNeg, dInt, dAbs, dIsN, dNotN, D.isNon, dLen, dItems, dIx, dTru, D.tru, D.seq, fSetL, fAppend, sizeLine_eq, rg1, rg2, rg3, rg4, rg5, rg6, rg7, rg8, a_raise, k_raise, a_par3, k_par3, a_try, kt_ok, kt_exc, hdl, sEnd, dropN, inR, dRev, a_fz, k_fzL, k_fzF, k_fzT, a_fzS, k_fzS, k], rfl⟩, by simp [wipeE]⟩) (by simp [sizeLine_eq]; omega)
  have em : ((heads s e).map D.int).map (fun d => match d with | .int x => D.int (len s x) | d => d) = ((heads s e).map (len s)).map D.int := by
    rw [List.map_map, List.map_map]
    rfl
  rw [List.filter_eq_self.mpr (by simp), em, List.nil_append] at lc1
  have lb2 : ∀ n ∈ (heads s e).map (len s), 2 ≤ n ∧ n ≤ 40 := fun n hn => by
    obtain ⟨x, hx, rfl⟩ := List.mem_map.mp hn
    exact lb x hx
  have lz : ((heads s e).map (len s)).length ≤ 40 := by rw [List.length_map]; omega
  generalize (heads s e).map (len s) = Ls at *
  let I : Nat → TV.Env → List D → Prop := fun k ρ acc => ∃ (a b : Int) (ls : List Int), Src a b ∧ ls.length ≤ k ∧ (∀ n ∈ ls, n ∈ Ls) ∧ acc = ls.map (fun n => D.tup [.int n, .bl true]) ∧ ρ = [some (src a b), some (.tup (s.map .int)), some (.int e), none, none, none, none]
  obtain ⟨ρ', acc', e2, a2, b2, ls, s2, l2, m2, rfl, rfl⟩ := lc_inv (vs := [6]) (i := 6) (t := t__law_rule_2) (u := u__law_rule_3) (I := I) (Ls.map D.int) 0 [some (src a b), some (.tup (s.map .int)), some (.int e), none, none, none, none] [] ⟨a, b, [], h, by simp, by simp, rfl, rfl⟩ (by simp [sizeLine_eq]; omega) (fun j d ρ acc hd hI => by
    obtain ⟨a1, b1, ls, s1, l1, m1, rfl, rfl⟩ := hI
    rw [List.getElem?_map, Option.map_eq_some_iff] at hd
    obtain ⟨n, hn, rfl⟩ := hd
    obtain ⟨a3, b3, t, s3, t1, t2, e3⟩ := e_take a1 b1 3 s1 (by decide) (by decide)
    by_cases c : 0 < t
    · refine .inl ⟨[some (src a3 b3), some (.tup (s.map .int)), some (.int e), none, none, none, some (.int n)], [some (src a3 b3), some (.tup (s.map .int)), some (.int e), none, none, none, some (.int n)], .tup [.int n, .bl true], by simp [b_ok, b_stuck, b_exc, a_def, f_ok, f_exc, k_rt, k_nx, a_do, a_set, a_set2, a_drop, a_ret, a_unp, a_seq, k_seq, k_seqr, k_seqb, k_seqc, a_op, k_op, a_c, a_var, a_b, k_b, a_then, k_and1, k_and0, k_or1, k_or0, k_andV1, k_andV0, k_orV1, k_orV0, k_if1, k_if0, k_ifS1, k_ifS0, k_ifT1, k_ifT0, k_notV, k_not, a_yes, a_no, a_next, a_never, a_par, k_par, a_for, k_for, a_i1, k_i1, a_io, k_io, a_call, k_call, a_callP, k_callP, a_chain, k_chain, a_mut, k_mut, a_sto, k_sto, a_lc, k_lc, a_new, a_gN, a_gT, d_lt, d_le, d_gt, d_ge, d_intB, ev, rds, chk, pAny, pTup, pInt, takeA, wbE, permL, padE, outE, gNs, own_int, own_bl, own_str, own_non, own_tup, own_ins, own_frl, own_lst, own_dic, dTup, dLst, dAdd, dSub, dMulS, dDiv, dMod, dNeg, dInt, dAbs, dIsN, dNotN, D.isNon, dLen, dItems, dIx, dTru, D.tru, D.seq, fSetL, fAppend, sizeLine_eq, rg1, rg2, rg3, rg4, rg5, rg6, rg7, rg8, a_raise, k_raise, a_par3, k_par3, a_try, kt_ok, kt_exc, hdl, sEnd, dropN, inR, dRev, a_fz, k_fzL, k_fzF, k_fzT, a_fzS, k_fzS, e3, c], by simp [u__law_rule_3, b_ok, b_stuck, b_exc, a_def, f_ok, f_exc, k_rt, k_nx, a_do, a_set, a_set2, a_drop, a_ret, a_unp, a_seq, k_seq, k_seqr, k_seqb, k_seqc, a_op, k_op, a_c, a_var, a_b, k_b, a_then, k_and1, k_and0, k_or1, k_or0, k_andV1, k_andV0, k_orV1, k_orV0, k_if1, k_if0, k_ifS1, k_ifS0, k_ifT1, k_ifT0, k_notV, k_not, a_yes, a_no, a_next, a_never, a_par, k_par, a_for, k_for, a_i1, k_i1, a_io, k_io, a_call, k_call, a_callP, k_callP, a_chain, k_chain, a_mut, k_mut, a_sto, k_sto, a_lc, k_lc, a_new, a_gN, a_gT, d_lt, d_le, d_gt, d_ge, d_intB, ev, rds, chk, pAny, pTup, pInt, takeA, wbE, permL, padE, outE, gNs, own_int, own_bl, own_str, own_non, own_tup, own_ins, own_frl, own_lst, own_dic, dTup, dLst, dAdd, dSub, dMulS, dDiv, dMod, dNeg, dInt, dAbs, dIsN, dNotN, D.isNon, dLen, dItems, dIx, dTru, D.tru, D.seq, fSetL, fAppend, sizeLine_eq, rg1, rg2, rg3, rg4, rg5, rg6, rg7, rg8, a_raise, k_raise, a_par3, k_par3, a_try, kt_ok, kt_exc, hdl, sEnd, dropN, inR, dRev, a_fz, k_fzL, k_fzF, k_fzT, a_fzS, k_fzS], rfl, a3, b3, ls ++ [n], s3, by simp; omega, ?_, by simp, by simp [wipeE]⟩
      intro y hy
      rcases List.mem_append.mp hy with z | z
      · exact m1 y z
      · cases List.mem_singleton.mp z; exact List.mem_of_getElem? hn
    · exact .inr ⟨[some (src a3 b3), some (.tup (s.map .int)), some (.int e), none, none, none, some (.int n)], by simp [b_ok, b_stuck, b_exc, a_def, f_ok, f_exc, k_rt, k_nx, a_do, a_set, a_set2, a_drop, a_ret, a_unp, a_seq, k_seq, k_seqr, k_seqb, k_seqc, a_op, k_op, a_c, a_var, a_b, k_b, a_then, k_and1, k_and0, k_or1, k_or0, k_andV1, k_andV0, k_orV1, k_orV0, k_if1, k_if0, k_ifS1, k_ifS0, k_ifT1, k_ifT0, k_notV, k_not, a_yes, a_no, a_next, a_never, a_par, k_par, a_for, k_for, a_i1, k_i1, a_io, k_io, a_call, k_call, a_callP, k_callP, a_chain, k_chain, a_mut, k_mut, a_sto, k_sto, a_lc, k_lc, a_new, a_gN, a_gT, d_lt, d_le, d_gt, d_ge, d_intB, ev, rds, chk, pAny, pTup, pInt, takeA, wbE, permL, padE, outE, gNs, own_int, own_bl, own_str, own_non, own_tup, own_ins, own_frl, own_lst, own_dic, dTup, dLst, dAdd, dSub, dMulS, dDiv, dMod, dNeg, dInt, dAbs, dIsN, dNotN, D.isNon, dLen, dItems, dIx, dTru, D.tru, D.seq, fSetL, fAppend, sizeLine_eq, rg1, rg2, rg3, rg4, rg5, rg6, rg7, rg8, a_raise, k_raise, a_par3, k_par3, a_try, kt_ok, kt_exc, hdl, sEnd, dropN, inR, dRev, a_fz, k_fzL, k_fzF, k_fzT, a_fzS, k_fzS, e3, c], a3, b3, ls, s3, by omega, m1, rfl, by simp [wipeE]⟩)
  have l3 : ls.length ≤ 40 := by simp at l2; omega
  obtain ⟨ks, ds, ok, kl, e4⟩ := dic_of ls (fun n hn => lb2 n (m2 n hn)) l3
  obtain ⟨a3, b3, t, s3, t1, t2, e5⟩ := e_take a2 b2 4 s2 (by decide) (by decide)
  have fin : ∀ (a b : Int) (ks : List Int) (ds : List D), Src a b → okK ks → ks.length ≤ 41 → ∃ (a' b' : Int) (r : Option (List Int)), Src a' b' ∧ okR r ∧ dSort [.dic (ks.map Sum.inl) ds] = some (.lst ((sortI ks).map .int)) ∧ F__law_one [some (src a b), some (.lst [.non, .tup ((sortI ks).map .int)])] = .ok (rD r, [some (src a' b'), some (.lst [.non, .tup ((sortI ks).map .int)])]) := fun a b ks ds hs hk hl => by
    obtain ⟨a', b', x, s', hx, e'⟩ := e_oneD a b [.non, .tup ((sortI ks).map .int)] hs (by simp) (by simp) (by simp [D.own])
    simp only [List.mem_cons, List.not_mem_nil, or_false] at hx
    rcases hx with rfl | rfl
    · exact ⟨a', b', none, s', okR_none, sort_keys ks ds (by omega), e'⟩
    · exact ⟨a', b', some (sortI ks), s', sorted_keys hk, sort_keys ks ds (by omega), e'⟩
  by_cases c : t = 0
  · obtain ⟨a4, b4, u, s4, u1, u2, e6⟩ := e_take a3 b3 39 s3 (by decide) (by decide)
    obtain ⟨ks', ds', k3, l4, e7⟩ := put_key ks ds (2 + u) ok (by omega) (by omega)
    obtain ⟨a5, b5, r, s5, hr, e8, e9⟩ := fin a4 b4 ks' ds' s4 k3 (by omega)
    have q : dEq [.int t, .int 0] = some (.bl true) := by rw [d_eq, decide_eq_true c]
    refine ⟨a5, b5, r, s5, hr, ?_⟩
    unfold F__law_rule m__law_rule
    simp [b_ok, b_stuck, b_exc, a_def, f_ok, f_exc, k_rt, k_nx, a_do, a_set, a_set2, a_drop, a_ret, a_unp, a_seq, k_seq, k_seqr, k_seqb, k_seqc, a_op, k_op, a_c, a_var, a_b, k_b, a_then, k_and1, k_and0, k_or1, k_or0, k_andV1, k_andV0, k_orV1, k_orV0, k_if1, k_if0, k_ifS1, k_ifS0, k_ifT1, k_ifT0, k_notV, k_not, a_yes, a_no, a_next, a_never, a_par, k_par, a_for, k_for, a_i1, k_i1, a_io, k_io, a_call, k_call, a_callP, k_callP, a_chain, k_chain, a_mut, k_mut, a_sto, k_sto, a_lc, k_lc, a_new, a_gN, a_gT, d_lt, d_le, d_gt, d_ge, d_intB, ev, rds, chk, pAny, pTup, pInt, takeA, wbE, permL, padE, outE, gNs, own_int, own_bl, own_str, own_non, own_tup, own_ins, own_frl, own_lst, own_dic, dTup, dLst, dAdd, dSub, dMulS, dDiv, dMod, dNeg, dInt, dAbs, dIsN, dNotN, D.isNon, dLen, dItems, dIx, dTru, D.tru, D.seq, fSetL, fAppend, sizeLine_eq, rg1, rg2, rg3, rg4, rg5, rg6, rg7, rg8, a_raise, k_raise, a_par3, k_par3, a_try, kt_ok, kt_exc, hdl, sEnd, dropN, inR, dRev, a_fz, k_fzL, k_fzF, k_fzT, a_fzS, k_fzS, k0, wipeE, lc1, ↓e2, e4, e5, q, e6, e7, e8, e9, dTupOf_lst]
  · obtain ⟨a5, b5, r, s5, hr, e8, e9⟩ := fin a3 b3 ks ds s3 ok (by omega)
    have q : dEq [.int t, .int 0] = some (.bl false) := by rw [d_eq, decide_eq_false c]
    refine ⟨a5, b5, r, s5, hr, ?_⟩
    unfold F__law_rule m__law_rule
    simp [b_ok, b_stuck, b_exc, a_def, f_ok, f_exc, k_rt, k_nx, a_do, a_set, a_set2, a_drop, a_ret, a_unp, a_seq, k_seq, k_seqr, k_seqb, k_seqc, a_op, k_op, a_c, a_var, a_b, k_b, a_then, k_and1, k_and0, k_or1, k_or0, k_andV1, k_andV0, k_orV1, k_orV0, k_if1, k_if0, k_ifS1, k_ifS0, k_ifT1, k_ifT0, k_notV, k_not, a_yes, a_no, a_next, a_never, a_par, k_par, a_for, k_for, a_i1, k_i1, a_io, k_io, a_call, k_call, a_callP, k_callP, a_chain, k_chain, a_mut, k_mut, a_sto, k_sto, a_lc, k_lc, a_new, a_gN, a_gT, d_lt, d_le, d_gt, d_ge, d_intB, ev, rds, chk, pAny, pTup, pInt, takeA, wbE, permL, padE, outE, gNs, own_int, own_bl, own_str, own_non, own_tup, own_ins, own_frl, own_lst, own_dic, dTup, dLst, dAdd, dSub, dMulS, dDiv, dMod, dNeg, dInt, dAbs, dIsN, dNotN, D.isNon, dLen, dItems, dIx, dTru, D.tru, D.seq, fSetL, fAppend, sizeLine_eq, rg1, rg2, rg3, rg4, rg5, rg6, rg7, rg8, a_raise, k_raise, a_par3, k_par3, a_try, kt_ok, kt_exc, hdl, sEnd, dropN, inR, dRev, a_fz, k_fzL, k_fzF, k_fzT, a_fzS, k_fzS, k0, wipeE, lc1, ↓e2, e4, e5, q, e8, e9, dTupOf_lst]

theorem d_lrow (a b : Int) (least most : Nat) (h : Src a b) (h1 : 1 ≤ least) (h2 : least ≤ most) (h3 : most ≤ 40) : ∃ (a' b' : Int) (s : List Int) (e : Int) (r : Option (List Int)), Src a' b' ∧ okS s ∧ 0 ≤ e ∧ e ≤ 3 ∧ okR r ∧ F__law_row [some (src a b), some (.int least), some (.int most)] = .ok (.tup [.tup (s.map .int), .int e, rD r], [some (src a' b'), some (.int least), some (.int most)]) := by
  obtain ⟨a1, b1, t, s1, t1, t2, e1⟩ := e_take a b ((most : Int) - least + 1) h (by omega) (by omega)
  obtain ⟨t, rfl⟩ : ∃ n : Nat, t = n := ⟨t.toNat, by omega⟩
  obtain ⟨a2, b2, s, s2, os, _, e2⟩ := d_lstones a1 b1 (least + t) s1 (by omega) (by omega)
  have ec : (((least + t : Nat)) : Int) = (least : Int) + t := by omega
  rw [ec] at e2
  obtain ⟨a3, b3, e, s3, he, e3⟩ := e_one a2 b2 [3, 3, 3, 3, 1, 2, 1, 0] s2 (by simp) (by simp)
  simp only [List.map_cons, List.map_nil] at e3
  have he : 0 ≤ e ∧ e ≤ 3 := by simp at he; omega
  obtain ⟨a4, b4, r, s4, hr, e4⟩ := d_lrule a3 b3 s e s3 he.1 he.2 os.2.2.1
  refine ⟨a4, b4, s, e, r, s4, os, he.1, he.2, hr, ?_⟩
  unfold F__law_row m__law_row
  simp [b_ok, b_stuck, b_exc, a_def, f_ok, f_exc, k_rt, k_nx, a_do, a_set, a_set2, a_drop, a_ret, a_unp, a_seq, k_seq, k_seqr, k_seqb, k_seqc, a_op, k_op, a_c, a_var, a_b, k_b, a_then, k_and1, k_and0, k_or1, k_or0, k_andV1, k_andV0, k_orV1, k_orV0, k_if1, k_if0, k_ifS1, k_ifS0, k_ifT1, k_ifT0, k_notV, k_not, a_yes, a_no, a_next, a_never, a_par, k_par, a_for, k_for, a_i1, k_i1, a_io, k_io, a_call, k_call, a_callP, k_callP, a_chain, k_chain, a_mut, k_mut, a_sto, k_sto, a_lc, k_lc, a_new, a_gN, a_gT, d_lt, d_le, d_gt, d_ge, d_intB, ev, rds, chk, pAny, pTup, pInt, takeA, wbE, permL, padE, outE, gNs, own_int, own_bl, own_str, own_non, own_tup, own_ins, own_frl, own_lst, own_dic, dTup, dLst, dAdd, dSub, dMulS, dDiv, dMod, dNeg, dInt, dAbs, dIsN, dNotN, D.isNon, dLen, dItems, dIx, dTru, D.tru, D.seq, fSetL, fAppend, sizeLine_eq, rg1, rg2, rg3, rg4, rg5, rg6, rg7, rg8, a_raise, k_raise, a_par3, k_par3, a_try, kt_ok, kt_exc, hdl, sEnd, dropN, inR, dRev, a_fz, k_fzL, k_fzF, k_fzT, a_fzS, k_fzS, e1, e2, e3, e4, rD_own]

end K58

namespace K58
open PySem TV
/-! the row of a lot -/

def lotL (s : List Int) (x : Int) : List Int := cut s (lo s x) (hi s x + 1)
section
variable {s : List Int} {x y : Int}

theorem lotL_len (hx : x ∈ s) : (lotL s x).length = hi s x + 1 - lo s x := cut_len s _ _ (by have := lo_hi (s := s) (x := x); omega) (by have := hi_lt hx; omega)

theorem lotL_get (hx : x ∈ s) {k : Nat} (h : k < hi s x + 1 - lo s x) : (lotL s x).getD k 0 = s.getD (lo s x + k) 0 := by
  have := cut_get (s := s) (i := lo s x) (j := hi s x + 1) (k := k) h (by have := hi_lt hx; omega)
  rw [List.getD_eq_getElem?_getD, List.getD_eq_getElem?_getD]
  unfold lotL
  rw [this]

theorem lotL_nd (nd : s.Nodup) : (lotL s x).Nodup := (nd.sublist (List.drop_sublist _ _)).sublist (List.take_sublist _ _)

theorem lotL_mem (nd : s.Nodup) (hx : x ∈ s) : y ∈ lotL s x ↔ y ∈ s ∧ lo s x ≤ ixOf y s ∧ ixOf y s ≤ hi s x := by
  constructor
  · intro h
    obtain ⟨a, b⟩ := cut_ix nd h
    exact ⟨cut_mem h, a, by omega⟩
  · rintro ⟨a, b, c⟩
    exact mem_cut a b (by omega) (by have := hi_lt hx; omega)

theorem lotL_in (nd : s.Nodup) (hx : x ∈ s) (hy : y ∈ lotL s x) : lo s x ≤ lo s y ∧ hi s y ≤ hi s x := by
  obtain ⟨a, b, c⟩ := (lotL_mem nd hx).mp hy
  by_cases e : y = x
  · subst e; exact ⟨Nat.le_refl _, Nat.le_refl _⟩
  · exact (turn_in nd hx a e b c).1

theorem lotL_sp (nd : s.Nodup) (hx : x ∈ s) (hy : y ∈ lotL s x) : ixOf y (lotL s x) = ixOf y s - lo s x ∧ lo (lotL s x) y = lo s y - lo s x ∧ hi (lotL s x) y = hi s y - lo s x := by
  obtain ⟨ym, y1, y2⟩ := (lotL_mem nd hx).mp hy
  obtain ⟨w1, w2⟩ := lotL_in nd hx hy
  obtain ⟨a1, a2, a3⟩ := sp_lo nd ym
  obtain ⟨b1, b0, b2, b3⟩ := sp_hi nd ym
  have ln := lotL_len hx
  have nt := lotL_nd (x := x) nd
  have hp : ixOf y s - lo s x < (lotL s x).length := by omega
  have g := fun (k : Nat) (h : k < hi s x + 1 - lo s x) => lotL_get hx h
  have e : (lotL s x).getD (ixOf y s - lo s x) 0 = y := by
    rw [g _ (by omega), show lo s x + (ixOf y s - lo s x) = ixOf y s by omega]
    exact ix_at ym
  have A : SpA ((lotL s x).getD · 0) (ixOf y s - lo s x) (lo s y - lo s x) := by
    refine ⟨by omega, fun k h1 h2 => ?_, fun h => ?_⟩
    · show (lotL s x).getD k 0 < (lotL s x).getD (ixOf y s - lo s x) 0
      rw [g k (by omega), g _ (by omega), show lo s x + (ixOf y s - lo s x) = ixOf y s by omega]
      exact a2 _ (by omega) (by omega)
    · show (lotL s x).getD (ixOf y s - lo s x) 0 < (lotL s x).getD (lo s y - lo s x - 1) 0
      rw [g (ixOf y s - lo s x) (by omega), g (lo s y - lo s x - 1) (by omega), show lo s x + (ixOf y s - lo s x) = ixOf y s by omega, show lo s x + (lo s y - lo s x - 1) = lo s y - 1 by omega]
      exact a3 (by omega)
  have B : SpB ((lotL s x).getD · 0) (lotL s x).length (ixOf y s - lo s x) (hi s y - lo s x) := by
    refine ⟨by omega, by omega, fun k h1 h2 => ?_, fun h => ?_⟩
    · show (lotL s x).getD k 0 < (lotL s x).getD (ixOf y s - lo s x) 0
      rw [g k (by omega), g _ (by omega), show lo s x + (ixOf y s - lo s x) = ixOf y s by omega]
      exact b2 _ (by omega) (by omega)
    · show (lotL s x).getD (ixOf y s - lo s x) 0 < (lotL s x).getD (hi s y - lo s x + 1) 0
      rw [g (ixOf y s - lo s x) (by omega), g (hi s y - lo s x + 1) (by omega), show lo s x + (ixOf y s - lo s x) = ixOf y s by omega, show lo s x + (hi s y - lo s x + 1) = hi s y + 1 by omega]
      have := hi_lt hx
      exact b3 (by omega)
  refine ⟨?_, lo_of nt hp e A, hi_of nt hp e B⟩
  rw [List.getD_eq_getElem?_getD, List.getElem?_eq_getElem hp] at e
  have e : (lotL s x)[ixOf y s - lo s x] = y := e
  have := ix_inj nt hp
  rwa [e] at this

theorem lotL_flag {e : Int} (nd : s.Nodup) (hx : x ∈ s) (hy : y ∈ lotL s x) : flag (lotL s x) (lotE s e x) y = flag s e y := by
  obtain ⟨_, e1, e2⟩ := lotL_sp nd hx hy
  obtain ⟨ym, y1, y2⟩ := (lotL_mem nd hx).mp hy
  obtain ⟨w1, w2⟩ := lotL_in nd hx hy
  have ln := lotL_len hx
  have g := hi_lt hx
  have g2 := lo_hi (s := s) (x := y)
  have f1 : opA (lotE s e x) (lo s y - lo s x) = opA e (lo s y) := by
    unfold lotE
    rw [Bool.eq_iff_iff]
    cases h1 : opA e (lo s x) <;> cases h2 : opB s e (hi s x) <;> simp only [opA, opB, decide_eq_true_eq, decide_eq_false_iff_not] at h1 h2 ⊢ <;> simp <;> omega
  have f2 : opB (lotL s x) (lotE s e x) (hi s y - lo s x) = opB s e (hi s y) := by
    unfold lotE
    rw [Bool.eq_iff_iff]
    cases h1 : opA e (lo s x) <;> cases h2 : opB s e (hi s x) <;> simp only [opA, opB, decide_eq_true_eq, decide_eq_false_iff_not] at h1 h2 ⊢ <;> simp [ln] <;> omega
  unfold flag
  rw [e1, e2, f1, f2]

theorem lotL_lenE (nd : s.Nodup) (hx : x ∈ s) (hy : y ∈ lotL s x) : len (lotL s x) y = len s y := by
  obtain ⟨_, e1, e2⟩ := lotL_sp nd hx hy
  obtain ⟨w1, w2⟩ := lotL_in nd hx hy
  have g2 := lo_hi (s := s) (x := y)
  unfold len
  rw [e1, e2]
  omega

theorem lotL_head {e : Int} (nd : s.Nodup) (hx : x ∈ s) (hy : y ∈ lotL s x) : head (lotL s x) (lotE s e x) y = head s e y := by
  have h := lotL_lenE nd hx hy
  unfold head
  unfold len at h
  rw [lotL_flag nd hx hy, h]

theorem sorted_eq {a b : List Int} (sa : a.Pairwise (· ≤ ·)) (sb : b.Pairwise (· ≤ ·)) (p : a.Perm b) : a = b := (sortI_uniq p sa).trans (sortI_uniq (List.Perm.refl b) sb).symm

theorem lotL_heads {e : Int} (nd : s.Nodup) (hx : x ∈ s) : heads (lotL s x) (lotE s e x) = (heads s e).filter fun y => decide (y ∈ lotL s x) := by
  refine sorted_eq (heads_sorted _ _) (List.Pairwise.filter _ (heads_sorted _ _)) ((List.perm_ext_iff_of_nodup (heads_nd (lotL_nd nd)) (List.Pairwise.filter _ (heads_nd nd))).mpr fun y => ?_)
  rw [List.mem_filter, heads_iff, heads_iff, decide_eq_true_eq]
  constructor
  · rintro ⟨a, b⟩
    exact ⟨⟨((lotL_mem nd hx).mp a).1, by rw [← lotL_head nd hx a]; exact b⟩, a⟩
  · rintro ⟨⟨_, b⟩, a⟩
    exact ⟨a, by rw [lotL_head nd hx a]; exact b⟩

theorem lotL_free {e : Int} {r : Option (List Int)} (nd : s.Nodup) (hx : x ∈ s) : free (lotL s x) (lotE s e x) r = (free s e r).filter fun y => decide (y ∈ lotL s x) := by
  unfold free
  rw [lotL_heads nd hx, List.filter_filter, List.filter_filter]
  refine List.filter_congr fun y _ => ?_
  by_cases c : y ∈ lotL s x
  · rw [lotL_lenE nd hx c]; simp [c]
  · simp [c]

theorem lotL_inLot (nd : s.Nodup) (hx : x ∈ s) (hy : y ∈ lotL s x) (z : Int) : inLot (lotL s x) y z ↔ inLot s y z := by
  obtain ⟨_, e1, e2⟩ := lotL_sp nd hx hy
  obtain ⟨w1, w2⟩ := lotL_in nd hx hy
  have g2 := lo_hi (s := s) (x := y)
  unfold inLot
  rw [e1, e2]
  constructor
  · rintro ⟨a, n, h1, h2⟩
    obtain ⟨zm, z1, z2⟩ := (lotL_mem nd hx).mp a
    rw [(lotL_sp nd hx a).1] at h1 h2
    exact ⟨zm, n, by omega, by omega⟩
  · rintro ⟨a, n, h1, h2⟩
    have zc : z ∈ lotL s x := (lotL_mem nd hx).mpr ⟨a, by omega, by omega⟩
    rw [(lotL_sp nd hx zc).1]
    exact ⟨zc, n, by omega, by omega⟩

theorem lotL_par (nd : s.Nodup) (hx : x ∈ s) (hy : y ∈ lotL s x) (n : y ≠ x) : par (lotL s x) y = par s y := by
  obtain ⟨ym, y1, y2⟩ := (lotL_mem nd hx).mp hy
  obtain ⟨ix, e1, e2⟩ := lotL_sp nd hx hy
  obtain ⟨w1, w2⟩ := lotL_in nd hx hy
  obtain ⟨p, hp, pm, p1, p2⟩ := par_within nd hx ⟨ym, n, y1, y2⟩
  have pc : p ∈ lotL s x := (lotL_mem nd hx).mpr ⟨pm, p1, p2⟩
  have yp := (par_at nd ym hp).1
  have nt := lotL_nd (x := x) nd
  -- the parent in the lot's row is a greater stone beside it; both name the lesser
  obtain ⟨q, hq⟩ := par_ex nt hy pc yp
  have qm := par_mem hy q hq
  obtain ⟨qs, q1, q2⟩ := (lotL_mem nd hx).mp qm
  obtain ⟨yq, qa⟩ := par_at nt hy hq
  obtain ⟨_, pa⟩ := par_at nd ym hp
  have px := (lotL_sp nd hx pc).1
  have qx := (lotL_sp nd hx qm).1
  have ln := lotL_len hx
  have g1 := lo_le_ix s y
  have g2 := ix_le_hi s y
  have g3 := lo_hi (s := s) (x := y)
  have g4 := hi_lt hx
  rw [e1, e2] at qa
  rw [qx] at qa
  rw [hq, hp]
  congr 1
  refine Classical.byContradiction fun c => ?_
  have inS : q ∈ clo s y := by
    unfold clo aI bI
    rcases qa with ⟨h0, h1⟩ | ⟨h0, h1⟩
    · refine List.mem_append_left _ ?_
      rw [if_pos (by omega)]
      have : ixOf q s = lo s y - 1 := by omega
      rw [← this, ix_at qs]
      simp
    · refine List.mem_append_right _ ?_
      have := hi_lt hx
      rw [if_pos (by omega)]
      have : ixOf q s = hi s y + 1 := by omega
      rw [← this, ix_at qs]
      simp
  have inC : p ∈ clo (lotL s x) y := by
    unfold clo aI bI
    rcases pa with ⟨h0, h1⟩ | ⟨h0, h1⟩
    · refine List.mem_append_left _ ?_
      rw [if_pos (by omega)]
      have : ixOf p (lotL s x) = lo (lotL s x) y - 1 := by rw [px, e1]; omega
      rw [← this, ix_at pc]
      simp
    · refine List.mem_append_right _ ?_
      rw [if_pos (by omega)]
      have : ixOf p (lotL s x) = hi (lotL s x) y + 1 := by rw [px, e2]; omega
      rw [← this, ix_at pc]
      simp
  have u1 := (mnO_spec hp).2 q inS
  have u2 := (mnO_spec hq).2 p inC
  exact c (by omega)

theorem lotL_sns (nd : s.Nodup) (hx : x ∈ s) (hy : y ∈ lotL s x) (n : y ≠ x) (h : lo s y < hi s y) : sns (lotL s x) y = sns s y := by
  obtain ⟨ym, y1, y2⟩ := (lotL_mem nd hx).mp hy
  have e := gc_ext (lotL_nd nd) nd hy ym (lotL_inLot nd hx hy)
  obtain ⟨c, hc, cm⟩ := kids_ne ym h
  have cl : inLot s y c := (gc_some nd ym hc).1
  obtain ⟨w1, w2⟩ := lotL_in nd hx hy
  have cc : c ∈ lotL s x := (lotL_mem nd hx).mpr ⟨cm, by have := cl.2.2.1; omega, by have := cl.2.2.2; omega⟩
  obtain ⟨p, hp, pm, p1, p2⟩ := par_within nd hx ⟨ym, n, y1, y2⟩
  have pc : p ∈ lotL s x := (lotL_mem nd hx).mpr ⟨pm, p1, p2⟩
  unfold sns
  rw [e, hc, lotL_par nd hx hy n, hp]
  show (decide (ixOf c (lotL s x) < ixOf y (lotL s x)) != decide (ixOf y (lotL s x) < ixOf p (lotL s x))) = (decide (ixOf c s < ixOf y s) != decide (ixOf y s < ixOf p s))
  rw [(lotL_sp nd hx hy).1, (lotL_sp nd hx cc).1, (lotL_sp nd hx pc).1]
  have c1 := ((lotL_mem nd hx).mp cc).2.1
  congr 1
  · rw [decide_eq_decide]; omega
  · rw [decide_eq_decide]; omega

theorem lotL_snsX {c : Int} (nd : s.Nodup) (hx : x ∈ s) (hc : gcO s x = some c) : snsI (lotL s x) x = if ixOf c s < ixOf x s then 0 else 1 := by
  have xl : x ∈ lotL s x := (lotL_mem nd hx).mpr ⟨hx, lo_le_ix s x, ix_le_hi s x⟩
  have e := gc_ext (lotL_nd nd) nd xl hx (lotL_inLot nd hx xl)
  have cl : inLot s x c := (gc_some nd hx hc).1
  have cc : c ∈ lotL s x := (lotL_mem nd hx).mpr ⟨cl.1, cl.2.2.1, cl.2.2.2⟩
  have pn : par (lotL s x) x = none := by
    cases hp : par (lotL s x) x with
    | none => rfl
    | some p =>
      exfalso
      have lt := (par_at (lotL_nd nd) xl hp).1
      obtain ⟨pm, p1, p2⟩ := (lotL_mem nd hx).mp (par_mem xl p hp)
      have := lt_notin nd hx pm lt
      omega
  unfold snsI sns
  rw [e, hc, pn]
  show (if (decide (ixOf c (lotL s x) < ixOf x (lotL s x)) != true) = true then (1 : Int) else 0) = _
  rw [(lotL_sp nd hx xl).1, (lotL_sp nd hx cc).1]
  have := cl.2.2.1
  have := lo_le_ix s x
  by_cases o : ixOf c s < ixOf x s
  · have o2 : ixOf c s - lo s x < ixOf x s - lo s x := by omega
    simp [o, o2]
  · have o2 : ¬ ixOf c s - lo s x < ixOf x s - lo s x := by omega
    simp [o, o2]
end

/-- the parent is the least stone in whose lot x is -/
theorem par_least {s : List Int} {x p : Int} (nd : s.Nodup) (hx : x ∈ s) : par s x = some p ↔ inLot s p x ∧ p ∈ s ∧ ∀ q ∈ s, inLot s q x → p ≤ q := by
  constructor
  · intro h
    have pm := par_mem hx p h
    refine ⟨par_of_in nd hx h, pm, fun q qm hq => ?_⟩
    obtain ⟨p', hp', pm', p1, p2⟩ := par_within nd qm hq
    rw [h] at hp'
    cases hp'
    refine Classical.byContradiction fun c => ?_
    have o := lt_notin nd qm pm (by omega)
    omega
  · rintro ⟨h1, pm, h2⟩
    obtain ⟨q, hq, qm, _, _⟩ := par_within nd pm h1
    have a := h2 q qm (par_of_in nd hx hq)
    obtain ⟨q', hq', _, q1, q2⟩ := par_within nd pm h1
    rw [hq] at hq'
    cases hq'
    have : q ≤ p := Classical.byContradiction fun c => by
      have o := lt_notin nd pm qm (by omega)
      omega
    rw [hq]
    congr 1
    omega

/-! rows of the stones that are not below a bound; lots by order alone -/

def highL (s : List Int) (m : Int) : List Int := s.filter fun x => decide (m ≤ x)
section
variable {s : List Int} {m x y z : Int}

theorem hg_mem : x ∈ highL s m ↔ x ∈ s ∧ m ≤ x := by unfold highL; rw [List.mem_filter, decide_eq_true_eq]

theorem hg_nd (nd : s.Nodup) : (highL s m).Nodup := List.Pairwise.filter _ nd

theorem ix_hd {a : Int} {t : List Int} (c : a = x) : ixOf x (a :: t) = 0 := by unfold ixOf; rw [if_pos c]

theorem ix_tl {a : Int} {t : List Int} (c : a ≠ x) : ixOf x (a :: t) = ixOf x t + 1 := by
  show (if a = x then 0 else ixOf x t + 1) = _
  rw [if_neg c]

theorem hg_od (hx : m ≤ x) (hy : m ≤ y) : ∀ {s : List Int}, Od (highL s m) x y ↔ Od s x y
  | [] => Iff.rfl
  | a :: t => by
    have ih := hg_od hx hy (s := t)
    unfold Od highL at ih ⊢
    by_cases c : m ≤ a
    · rw [List.filter_cons_of_pos (by simpa using c)]
      by_cases c1 : a = x
      · by_cases c2 : a = y
        · rw [ix_hd c1, ix_hd c1, ix_hd c2, ix_hd c2]
        · rw [ix_hd c1, ix_hd c1, ix_tl c2, ix_tl c2]; omega
      · by_cases c2 : a = y
        · rw [ix_tl c1, ix_tl c1, ix_hd c2, ix_hd c2]; omega
        · rw [ix_tl c1, ix_tl c1, ix_tl c2, ix_tl c2]; omega
    · rw [List.filter_cons_of_neg (by simpa using c), ix_tl (x := x) (by omega), ix_tl (x := y) (by omega)]
      omega

theorem lot_lt (nd : s.Nodup) (hx : x ∈ s) (hz : inLot s x z) : z < x := by
  obtain ⟨zm, n, h1, h2⟩ := hz
  refine Classical.byContradiction fun c => ?_
  have := lt_notin nd hx zm (by omega)
  omega

theorem lo_stop (nd : s.Nodup) (hx : x ∈ s) (h : 0 < lo s x) : ∃ a ∈ s, ixOf a s = lo s x - 1 ∧ x < a := by
  have sp := sp_lo nd hx
  have k : lo s x - 1 < s.length := by have := lo_lt hx; omega
  refine ⟨s[lo s x - 1], List.getElem_mem k, ix_inj nd k, ?_⟩
  have z : s.getD (ixOf x s) 0 < s.getD (lo s x - 1) 0 := sp.2.2 h
  rw [ix_at hx, List.getD_eq_getElem?_getD, List.getElem?_eq_getElem k] at z
  exact z

theorem hi_stop (nd : s.Nodup) (hx : x ∈ s) (h : hi s x + 1 < s.length) : ∃ a ∈ s, ixOf a s = hi s x + 1 ∧ x < a := by
  have sp := sp_hi nd hx
  refine ⟨s[hi s x + 1], List.getElem_mem h, ix_inj nd h, ?_⟩
  have z : s.getD (ixOf x s) 0 < s.getD (hi s x + 1) 0 := sp.2.2.2 h
  rw [ix_at hx, List.getD_eq_getElem?_getD, List.getElem?_eq_getElem h] at z
  exact z

theorem lot_iff (nd : s.Nodup) (hx : x ∈ s) (hz : z ∈ s) (n : z ≠ x) : inLot s x z ↔ z < x ∧ ∀ y ∈ s, (Od s x y ∧ Od s y z) ∨ (Od s z y ∧ Od s y x) → y < x := by
  have g1 := lo_le_ix s x
  have g2 := ix_le_hi s x
  constructor
  · intro h
    refine ⟨lot_lt nd hx h, fun y hy o => ?_⟩
    obtain ⟨_, _, h1, h2⟩ := h
    unfold Od at o
    exact lot_lt nd hx ⟨hy, fun e => by rw [e] at o; omega, by omega, by omega⟩
  · rintro ⟨hl, h⟩
    refine ⟨hz, n, ?_, ?_⟩
    · refine Classical.byContradiction fun c => ?_
      obtain ⟨a, am, ae, ag⟩ := lo_stop nd hx (by omega)
      by_cases e : a = z
      · omega
      · have k : ixOf a s ≠ ixOf z s := fun k => e (ix_eq_of am hz k)
        have := h a am (.inr ⟨by unfold Od; omega, by unfold Od; omega⟩)
        omega
    · refine Classical.byContradiction fun c => ?_
      have zl := ixOf_lt hz
      obtain ⟨a, am, ae, ag⟩ := hi_stop nd hx (by omega)
      by_cases e : a = z
      · omega
      · have k : ixOf a s ≠ ixOf z s := fun k => e (ix_eq_of am hz k)
        have := h a am (.inl ⟨by unfold Od; omega, by unfold Od; omega⟩)
        omega

theorem hg_lot (nd : s.Nodup) (hx : x ∈ highL s m) : inLot (highL s m) x z ↔ inLot s x z ∧ m ≤ z := by
  obtain ⟨xm, xb⟩ := hg_mem.mp hx
  constructor
  · intro h
    obtain ⟨zm, zb⟩ := hg_mem.mp h.1
    obtain ⟨h1, h2⟩ := (lot_iff (hg_nd nd) hx h.1 h.2.1).mp h
    refine ⟨(lot_iff nd xm zm h.2.1).mpr ⟨h1, fun y hy o => ?_⟩, zb⟩
    by_cases c : m ≤ y
    · refine h2 y (hg_mem.mpr ⟨hy, c⟩) ?_
      rwa [hg_od xb c, hg_od c zb, hg_od zb c, hg_od c xb]
    · omega
  · rintro ⟨h, zb⟩
    have zm := h.1
    obtain ⟨h1, h2⟩ := (lot_iff nd xm zm h.2.1).mp h
    refine (lot_iff (hg_nd nd) hx (hg_mem.mpr ⟨zm, zb⟩) h.2.1).mpr ⟨h1, fun y hy o => ?_⟩
    obtain ⟨ym, yb⟩ := hg_mem.mp hy
    refine h2 y ym ?_
    rwa [hg_od xb yb, hg_od yb zb, hg_od zb yb, hg_od yb xb] at o

theorem hg_par (nd : s.Nodup) (hx : x ∈ highL s m) : par (highL s m) x = par s x := by
  obtain ⟨xm, xb⟩ := hg_mem.mp hx
  have up : ∀ q ∈ s, inLot s q x → m ≤ q := fun q hq h => by have := lot_lt nd hq h; omega
  have key : ∀ p, par (highL s m) x = some p ↔ par s x = some p := fun p => by
    rw [par_least (hg_nd nd) hx, par_least nd xm]
    constructor
    · rintro ⟨h1, pm, h2⟩
      refine ⟨((hg_lot nd pm).mp h1).1, (hg_mem.mp pm).1, fun q hq h => ?_⟩
      have qm := hg_mem.mpr ⟨hq, up q hq h⟩
      exact h2 q qm ((hg_lot nd qm).mpr ⟨h, xb⟩)
    · rintro ⟨h1, pm, h2⟩
      have pm' := hg_mem.mpr ⟨pm, up p pm h1⟩
      exact ⟨(hg_lot nd pm').mpr ⟨h1, xb⟩, pm', fun q hq h => h2 q (hg_mem.mp hq).1 ((hg_lot nd hq).mp h).1⟩
  cases h : par s x with
  | some p => exact (key p).mpr h
  | none =>
    cases h2 : par (highL s m) x with
    | none => rfl
    | some p => have := (key p).mp h2; rw [h] at this; cases this

theorem hg_gc {c : Int} (nd : s.Nodup) (hx : x ∈ highL s m) (h : gcO (highL s m) x = some c) : gcO s x = some c := by
  obtain ⟨xm, xb⟩ := hg_mem.mp hx
  obtain ⟨c1, c2⟩ := gc_some (hg_nd nd) hx h
  obtain ⟨c3, c4⟩ := (hg_lot nd hx).mp c1
  cases h2 : gcO s x with
  | none => exact absurd c3 (gc_none nd xm h2)
  | some d =>
    obtain ⟨d1, d2⟩ := gc_some nd xm h2
    have a := d2 c c3
    have b := c2 d ((hg_lot nd hx).mpr ⟨d1, by omega⟩)
    congr 1
    omega

theorem hg_sns (nd : s.Nodup) (hx : x ∈ highL s m) (h : lo (highL s m) x < hi (highL s m) x) : sns (highL s m) x = sns s x := by
  obtain ⟨c, hc, cm⟩ := kids_ne hx h
  have c2 := hg_gc nd hx hc
  obtain ⟨xm, xb⟩ := hg_mem.mp hx
  have cb := (hg_mem.mp cm).2
  have e1 : decide (ixOf c (highL s m) < ixOf x (highL s m)) = decide (ixOf c s < ixOf x s) := decide_eq_decide.mpr (hg_od cb xb)
  have e2 : ahO (highL s m) x (par s x) = ahO s x (par s x) := by
    cases hp : par s x with
    | none => rfl
    | some p => exact decide_eq_decide.mpr (hg_od xb (by have := lot_lt nd (par_mem xm p hp) (par_of_in nd xm hp); omega))
  unfold sns
  rw [hc, c2, hg_par nd hx, e2]
  show (decide (ixOf c (highL s m) < ixOf x (highL s m)) != _) = (decide (ixOf c s < ixOf x s) != _)
  rw [e1]

theorem lo_nil (nd : s.Nodup) (hx : x ∈ s) : lo s x = 0 ↔ ∀ y ∈ s, Od s y x → y < x := by
  have g1 := lo_le_ix s x
  have g2 := ix_le_hi s x
  constructor
  · intro h y hy o
    unfold Od at o
    exact lot_lt nd hx ⟨hy, fun e => by rw [e] at o; omega, by omega, by omega⟩
  · intro h
    refine Classical.byContradiction fun c => ?_
    obtain ⟨a, am, ae, ag⟩ := lo_stop nd hx (by omega)
    have := h a am (by unfold Od; omega)
    omega

theorem hi_nil (nd : s.Nodup) (hx : x ∈ s) : ¬ hi s x + 1 < s.length ↔ ∀ y ∈ s, Od s x y → y < x := by
  have g1 := lo_le_ix s x
  have g2 := ix_le_hi s x
  have g3 := hi_lt hx
  constructor
  · intro h y hy o
    have yl := ixOf_lt hy
    unfold Od at o
    exact lot_lt nd hx ⟨hy, fun e => by rw [e] at o; omega, by omega, by omega⟩
  · intro h c
    obtain ⟨a, am, ae, ag⟩ := hi_stop nd hx c
    have := h a am (by unfold Od; omega)
    omega

theorem hg_flag {e : Int} (nd : s.Nodup) (hx : x ∈ highL s m) : flag (highL s m) e x = flag s e x := by
  obtain ⟨xm, xb⟩ := hg_mem.mp hx
  have a : lo (highL s m) x = 0 ↔ lo s x = 0 := by
    rw [lo_nil (hg_nd nd) hx, lo_nil nd xm]
    constructor
    · intro h y hy o
      by_cases c : m ≤ y
      · exact h y (hg_mem.mpr ⟨hy, c⟩) ((hg_od c xb).mpr o)
      · omega
    · intro h y hy o
      obtain ⟨ym, yb⟩ := hg_mem.mp hy
      exact h y ym ((hg_od yb xb).mp o)
  have b : ¬ hi (highL s m) x + 1 < (highL s m).length ↔ ¬ hi s x + 1 < s.length := by
    rw [hi_nil (hg_nd nd) hx, hi_nil nd xm]
    constructor
    · intro h y hy o
      by_cases c : m ≤ y
      · exact h y (hg_mem.mpr ⟨hy, c⟩) ((hg_od xb c).mpr o)
      · omega
    · intro h y hy o
      obtain ⟨ym, yb⟩ := hg_mem.mp hy
      exact h y ym ((hg_od xb yb).mp o)
  unfold flag opA opB
  rw [decide_eq_decide.mpr (and_congr_left' a), decide_eq_decide.mpr (and_congr_left' b)]

theorem hg_head {e : Int} (nd : s.Nodup) (hx : x ∈ highL s m) (h : head (highL s m) e x = true) : head s e x = true := by
  obtain ⟨xm, xb⟩ := hg_mem.mp hx
  have hf := head_flag h
  rw [hg_flag nd hx] at hf
  obtain ⟨c, hc, _⟩ := kids_ne hx (head_lt h)
  obtain ⟨⟨cm, n, c1, c2⟩, _⟩ := gc_some nd xm (hg_gc nd hx hc)
  have nx := ix_ne xm cm n
  have g1 := lo_le_ix s x
  have g2 := ix_le_hi s x
  unfold head
  rw [hf]
  simp
  omega

theorem hg_okS (os : okS s) (ne : highL s m ≠ []) : okS (highL s m) := by
  have l := List.length_filter_le (fun x => decide (m ≤ x)) s
  have p : 0 < (highL s m).length := List.length_pos_iff.mpr ne
  obtain ⟨a, b, c, d⟩ := os
  exact ⟨hg_nd a, p, Nat.le_trans l c, fun x hx => d x (hg_mem.mp hx).1⟩
end

end K58

namespace K58
open PySem TV
theorem e_oneT (a b : Int) (xs : List Int) (h : Src a b) (h1 : xs ≠ []) (h2 : xs.length ≤ 1000) : ∃ a' b' x, Src a' b' ∧ x ∈ xs ∧ F__law_one [some (src a b), some (.tup (xs.map .int))] = .ok (.int x, [some (src a' b'), some (.tup (xs.map .int))]) := by
  have hp : 0 < (xs.length : Int) := by
    cases xs with
    | nil => exact absurd rfl h1
    | cons => simp
  obtain ⟨a', b', t, hs, t1, t2, e⟩ := e_take a b xs.length h hp (by omega)
  obtain ⟨n, rfl⟩ : ∃ n : Nat, t = n := ⟨t.toNat, by omega⟩
  have hn : n < xs.length := by omega
  refine ⟨a', b', xs[n], hs, List.getElem_mem hn, ?_⟩
  unfold F__law_one m__law_one
  simp [b_ok, b_stuck, b_exc, a_def, f_ok, f_exc, k_rt, k_nx, a_do, a_set, a_set2, a_drop, a_ret, a_unp, a_seq, k_seq, k_seqr, k_seqb, k_seqc, a_op, k_op, a_c, a_var, a_b, k_b, a_then, k_and1, k_and0, k_or1, k_or0, k_andV1, k_andV0, k_orV1, k_orV0, k_if1, k_if0, k_ifS1, k_ifS0, k_ifT1, k_ifT0, k_notV, k_not, a_yes, a_no, a_next, a_never, a_par, k_par, a_for, k_for, a_i1, k_i1, a_io, k_io, a_call, k_call, a_callP, k_callP, a_chain, k_chain, a_mut, k_mut, a_sto, k_sto, a_lc, k_lc, a_new, a_gN, a_gT, d_lt, d_le, d_gt, d_ge, d_intB, ev, rds, chk, pAny, pTup, pInt, takeA, wbE, permL, padE, outE, gNs, own_int, own_bl, own_str, own_non, own_tup, own_ins, own_frl, own_lst, own_dic, dTup, dLst, dAdd, dSub, dMulS, dDiv, dMod, dNeg, dInt, dAbs, dIsN, dNotN, D.isNon, dLen, dItems, dIx, dTru, D.tru, D.seq, fSetL, fAppend, sizeLine_eq, rg1, rg2, rg3, rg4, rg5, rg6, rg7, rg8, a_raise, k_raise, a_par3, k_par3, a_try, kt_ok, kt_exc, hdl, sEnd, dropN, inR, dRev, a_fz, k_fzL, k_fzF, k_fzT, a_fzS, k_fzS, e, atI_nat, List.getElem?_eq_getElem, hn]

theorem eq_nilT (l : List Int) : dEq [.tup (l.map .int), .tup []] = some (.bl l.isEmpty) := by
  cases l with
  | nil => exact d_eqS (d := .tup []) rfl
  | cons n ns => exact (d_neU (p := .tuple ((n :: ns).map .int)) (q := .tuple []) (by simp only [D.pd, pds_ints]; rfl) rfl (shp_tup _) (shp_tup []) rfl).2

theorem hg_lc {t : MT} {u : ME} {i : Nat} {vs : List Nat} {ρ : TV.Env} (s : List Int) (m : Int) (hl : s.length ≤ 40) (h : ∀ x : Int, t (ρ.set i (some (.int x))) = .ok (decide (m ≤ x), ρ.set i (some (.int x))) ∧ u (ρ.set i (some (.int x))) = .ok (.int x, ρ.set i (some (.int x))) ∧ wipeE (ρ.set i (some (.int x))) vs = ρ) :
    lcL vs (gN i) t u (s.map D.int) ρ [] = .ok (.lst ((highL s m).map .int), ρ) := by
  have lc := lc_run (vs := vs) (i := i) (t := t) (u := u) (ρ := ρ)
    (b := fun d => match d with | .int x => decide (m ≤ x) | _ => false) (g := id) (s.map D.int) [] (fun d hd => by
      obtain ⟨x, hx, rfl⟩ := List.mem_map.mp hd
      obtain ⟨a, b, c⟩ := h x
      exact ⟨a, fun _ => ⟨b, rfl⟩, c⟩) (by simp [sizeLine_eq]; omega)
  rw [lst_filter_ints _ _ (fun x => decide (m ≤ x)) (fun x => rfl), List.nil_append] at lc
  exact lc

theorem e_high (s : List Int) (e : Int) (r : D) (m : Int) (os : okS s) (h1 : 0 ≤ e) (h2 : e ≤ 3) (ne : highL s m ≠ []) : F_high [some (rowD s e r), some (.int m)] = .ok (rowD (highL s m) e .non, [some (rowD s e r), some (.int m)]) := by
  have lc := hg_lc (vs := [3]) (i := 3) (t := t_high_1) (u := u_high_2) (ρ := [some (rowD s e r), some (.int m), none, none]) s m os.2.2.1 (fun x => by simp [b_ok, b_stuck, b_exc, a_def, f_ok, f_exc, k_rt, k_nx, a_do, a_set, a_set2, a_drop, a_ret, a_unp, a_seq, k_seq, k_seqr, k_seqb, k_seqc, a_op, k_op, a_c, a_var, a_b, k_b, a_then, k_and1, k_and0, k_or1, k_or0, k_andV1, k_andV0, k_orV1, k_orV0, k_if1, k_if0, k_ifS1, k_ifS0, k_ifT1, k_ifT0, k_notV, k_not, a_yes, a_no, a_next, a_never, a_par, k_par, a_for, k_for, a_i1, k_i1, a_io, k_io, a_call, k_call, a_callP, k_callP, a_chain, k_chain, a_mut, k_mut, a_sto, k_sto, a_lc, k_lc, a_new, a_gN, a_gT, d_lt, d_le, d_gt, d_ge, d_intB, ev, rds, chk, pAny, pTup, pInt, takeA, wbE, permL, padE, outE, gNs, own_int, own_bl, own_str, own_non, own_tup, own_ins, own_frl, own_lst, own_dic, dTup, dLst, dAdd, dSub, dMulS, dDiv, dMod, dNeg, dInt, dAbs, dIsN, dNotN, D.isNon, dLen, dItems, dIx, dTru, D.tru, D.seq, fSetL, fAppend, sizeLine_eq, rg1, rg2, rg3, rg4, rg5, rg6, rg7, rg8, a_raise, k_raise, a_par3, k_par3, a_try, kt_ok, kt_exc, hdl, sEnd, dropN, inR, dRev, a_fz, k_fzL, k_fzF, k_fzT, a_fzS, k_fzS, wipeE])
  have q := eq_nilT (highL s m)
  rw [List.isEmpty_eq_false_iff.mpr ne] at q
  have mk := e_Row2 (highL s m) e (hg_okS os ne) h1 h2
  generalize highL s m = H at *
  unfold F_high m_high
  simp [b_ok, b_stuck, b_exc, a_def, f_ok, f_exc, k_rt, k_nx, a_do, a_set, a_set2, a_drop, a_ret, a_unp, a_seq, k_seq, k_seqr, k_seqb, k_seqc, a_op, k_op, a_c, a_var, a_b, k_b, a_then, k_and1, k_and0, k_or1, k_or0, k_andV1, k_andV0, k_orV1, k_orV0, k_if1, k_if0, k_ifS1, k_ifS0, k_ifT1, k_ifT0, k_notV, k_not, a_yes, a_no, a_next, a_never, a_par, k_par, a_for, k_for, a_i1, k_i1, a_io, k_io, a_call, k_call, a_callP, k_callP, a_chain, k_chain, a_mut, k_mut, a_sto, k_sto, a_lc, k_lc, a_new, a_gN, a_gT, d_lt, d_le, d_gt, d_ge, d_intB, ev, rds, chk, pAny, pTup, pInt, takeA, wbE, permL, padE, outE, gNs, own_int, own_bl, own_str, own_non, own_tup, own_ins, own_frl, own_lst, own_dic, dTup, dLst, dAdd, dSub, dMulS, dDiv, dMod, dNeg, dInt, dAbs, dIsN, dNotN, D.isNon, dLen, dItems, dIx, dTru, D.tru, D.seq, fSetL, fAppend, sizeLine_eq, rg1, rg2, rg3, rg4, rg5, rg6, rg7, rg8, a_raise, k_raise, a_par3, k_par3, a_try, kt_ok, kt_exc, hdl, sEnd, dropN, inR, dRev, a_fz, k_fzL, k_fzF, k_fzT, a_fzS, k_fzS, own_row, f_stones, f_ends, wipeE, lc, dTupOf_lst, q, mk]

theorem e_high_no (s : List Int) (e : Int) (r : D) (m : Int) (hl : s.length ≤ 40) (ne : highL s m = []) : F_high [some (rowD s e r), some (.int m)] = .exc ix_BadSize (.int 0) [some (rowD s e r), some (.int m)] := by
  have lc := hg_lc (vs := [3]) (i := 3) (t := t_high_1) (u := u_high_2) (ρ := [some (rowD s e r), some (.int m), none, none]) s m hl (fun x => by simp [b_ok, b_stuck, b_exc, a_def, f_ok, f_exc, k_rt, k_nx, a_do, a_set, a_set2, a_drop, a_ret, a_unp, a_seq, k_seq, k_seqr, k_seqb, k_seqc, a_op, k_op, a_c, a_var, a_b, k_b, a_then, k_and1, k_and0, k_or1, k_or0, k_andV1, k_andV0, k_orV1, k_orV0, k_if1, k_if0, k_ifS1, k_ifS0, k_ifT1, k_ifT0, k_notV, k_not, a_yes, a_no, a_next, a_never, a_par, k_par, a_for, k_for, a_i1, k_i1, a_io, k_io, a_call, k_call, a_callP, k_callP, a_chain, k_chain, a_mut, k_mut, a_sto, k_sto, a_lc, k_lc, a_new, a_gN, a_gT, d_lt, d_le, d_gt, d_ge, d_intB, ev, rds, chk, pAny, pTup, pInt, takeA, wbE, permL, padE, outE, gNs, own_int, own_bl, own_str, own_non, own_tup, own_ins, own_frl, own_lst, own_dic, dTup, dLst, dAdd, dSub, dMulS, dDiv, dMod, dNeg, dInt, dAbs, dIsN, dNotN, D.isNon, dLen, dItems, dIx, dTru, D.tru, D.seq, fSetL, fAppend, sizeLine_eq, rg1, rg2, rg3, rg4, rg5, rg6, rg7, rg8, a_raise, k_raise, a_par3, k_par3, a_try, kt_ok, kt_exc, hdl, sEnd, dropN, inR, dRev, a_fz, k_fzL, k_fzF, k_fzT, a_fzS, k_fzS, wipeE])
  have q := eq_nilT (highL s m)
  rw [ne] at q lc
  simp only [List.map_nil, List.isEmpty_nil] at q lc
  unfold F_high m_high
  simp [b_ok, b_stuck, b_exc, a_def, f_ok, f_exc, k_rt, k_nx, a_do, a_set, a_set2, a_drop, a_ret, a_unp, a_seq, k_seq, k_seqr, k_seqb, k_seqc, a_op, k_op, a_c, a_var, a_b, k_b, a_then, k_and1, k_and0, k_or1, k_or0, k_andV1, k_andV0, k_orV1, k_orV0, k_if1, k_if0, k_ifS1, k_ifS0, k_ifT1, k_ifT0, k_notV, k_not, a_yes, a_no, a_next, a_never, a_par, k_par, a_for, k_for, a_i1, k_i1, a_io, k_io, a_call, k_call, a_callP, k_callP, a_chain, k_chain, a_mut, k_mut, a_sto, k_sto, a_lc, k_lc, a_new, a_gN, a_gT, d_lt, d_le, d_gt, d_ge, d_intB, ev, rds, chk, pAny, pTup, pInt, takeA, wbE, permL, padE, outE, gNs, own_int, own_bl, own_str, own_non, own_tup, own_ins, own_frl, own_lst, own_dic, dTup, dLst, dAdd, dSub, dMulS, dDiv, dMod, dNeg, dInt, dAbs, dIsN, dNotN, D.isNon, dLen, dItems, dIx, dTru, D.tru, D.seq, fSetL, fAppend, sizeLine_eq, rg1, rg2, rg3, rg4, rg5, rg6, rg7, rg8, a_raise, k_raise, a_par3, k_par3, a_try, kt_ok, kt_exc, hdl, sEnd, dropN, inR, dRev, a_fz, k_fzL, k_fzF, k_fzT, a_fzS, k_fzS, own_row, f_stones, f_ends, wipeE, lc, dTupOf_lst, q, ix_BadSize]

theorem e_right (s : List Int) (e m : Int) (r : Option (List Int)) (os : okS s) (h1 : 0 ≤ e) (h2 : e ≤ 3) : F__law_right [some (rowD s e (rD r)), some (.tup (s.map .int)), some (.int e), some (.int m)] = .ok (.bl true, [some (rowD s e (rD r)), some (.tup (s.map .int)), some (.int e), some (.int m)]) := by
  have hl := os.2.2.1
  have nd := os.1
  let P : Option D → Option D → Option D → Option D → Option D → TV.Env := fun o4 o5 o6 o7 o8 => [some (rowD s e (rD r)), some (.tup (s.map .int)), some (.int e), some (.int m), o4, o5, o6, o7, o8, none]
  have lc1 := hg_lc (vs := [8]) (i := 8) (t := t__law_right_1) (u := u__law_right_2) (ρ := P none none none none none) s m hl (fun x => by simp [P, b_ok, b_stuck, b_exc, a_def, f_ok, f_exc, k_rt, k_nx, a_do, a_set, a_set2, a_drop, a_ret, a_unp, a_seq, k_seq, k_seqr, k_seqb, k_seqc, a_op, k_op, a_c, a_var, a_b, k_b, a_then, k_and1, k_and0, k_or1, k_or0, k_andV1, k_andV0, k_orV1, k_orV0, k_if1, k_if0, k_ifS1, k_ifS0, k_ifT1, k_ifT0, k_notV, k_not, a_yes, a_no, a_next, a_never, a_par, k_par, a_for, k_for, a_i1, k_i1, a_io, k_io, a_call, k_call, a_callP, k_callP, a_chain, k_chain, a_mut, k_mut, a_sto, k_sto, a_lc, k_lc, a_new, a_gN, a_gT, d_lt, d_le, d_gt, d_ge, d_intB, ev, rds, chk, pAny, pTup, pInt, takeA, wbE, permL, padE, outE, gNs, own_int, own_bl, own_str, own_non, own_tup, own_ins, own_frl, own_lst, own_dic, dTup, dLst, dAdd, dSub, dMulS, dDiv, dMod, dNeg, dInt, dAbs, dIsN, dNotN, D.isNon, dLen, dItems, dIx, dTru, D.tru, D.seq, fSetL, fAppend, sizeLine_eq, rg1, rg2, rg3, rg4, rg5, rg6, rg7, rg8, a_raise, k_raise, a_par3, k_par3, a_try, kt_ok, kt_exc, hdl, sEnd, dropN, inR, dRev, a_fz, k_fzL, k_fzF, k_fzT, a_fzS, k_fzS, wipeE])
  by_cases ne : highL s m = []
  · have k1 := e_high_no s e (rD r) m hl ne
    have q : dEq [.tup [], .tup []] = some (.bl true) := d_eqS (d := .tup []) rfl
    have q0 : dEq [.int 0, .int 0] = some (.bl true) := by rw [d_eq]; rfl
    rw [ne] at lc1
    simp only [List.map_nil, P] at lc1
    unfold F__law_right m__law_right
    simp [b_ok, b_stuck, b_exc, a_def, f_ok, f_exc, k_rt, k_nx, a_do, a_set, a_set2, a_drop, a_ret, a_unp, a_seq, k_seq, k_seqr, k_seqb, k_seqc, a_op, k_op, a_c, a_var, a_b, k_b, a_then, k_and1, k_and0, k_or1, k_or0, k_andV1, k_andV0, k_orV1, k_orV0, k_if1, k_if0, k_ifS1, k_ifS0, k_ifT1, k_ifT0, k_notV, k_not, a_yes, a_no, a_next, a_never, a_par, k_par, a_for, k_for, a_i1, k_i1, a_io, k_io, a_call, k_call, a_callP, k_callP, a_chain, k_chain, a_mut, k_mut, a_sto, k_sto, a_lc, k_lc, a_new, a_gN, a_gT, d_lt, d_le, d_gt, d_ge, d_intB, ev, rds, chk, pAny, pTup, pInt, takeA, wbE, permL, padE, outE, gNs, own_int, own_bl, own_str, own_non, own_tup, own_ins, own_frl, own_lst, own_dic, dTup, dLst, dAdd, dSub, dMulS, dDiv, dMod, dNeg, dInt, dAbs, dIsN, dNotN, D.isNon, dLen, dItems, dIx, dTru, D.tru, D.seq, fSetL, fAppend, sizeLine_eq, rg1, rg2, rg3, rg4, rg5, rg6, rg7, rg8, a_raise, k_raise, a_par3, k_par3, a_try, kt_ok, kt_exc, hdl, sEnd, dropN, inR, dRev, a_fz, k_fzL, k_fzF, k_fzT, a_fzS, k_fzS, own_row, wipeE, lc1, dTupOf_lst, k1, q, q0, kn, sb, ix_BadSize]
  · have oh := hg_okS os ne
    have k1 := e_high s e (rD r) m os h1 h2 ne
    have k4 := d_lheads (highL s m) e h1 h2 oh.2.2.1
    have k6 := e_heads (highL s m) e .non oh.2.2.1
    have k7 := e_heads s e (rD r) hl
    have hz := heads_len (highL s m) e
    have n0 := d_neS (nice_row3 (highL s m) e none)
    have n0 : dNe [.tup [.tup ((highL s m).map .int), .int e, .non], .tup [.tup ((highL s m).map .int), .int e, .non]] = some (.bl false) := n0
    have n1 := ne_tupI (heads (highL s m) e)
    have n2 : dNe [.lst [], .lst []] = some (.bl false) := d_neS (d := .lst []) rfl
    have lc2 := lc_run (vs := [8]) (i := 8) (t := t__law_right_3) (u := u__law_right_4) (ρ := P (some (.tup ((highL s m).map .int))) (some (rowD (highL s m) e .non)) (some (.tup ((heads (highL s m) e).map .int))) (some (.tup ((heads s e).map .int))) none)
      (b := fun d => match d with | .int y => !decide (y ∈ heads s e) | _ => false) (g := id) ((heads (highL s m) e).map D.int) [] (fun d hd => by
        obtain ⟨y, hy, rfl⟩ := List.mem_map.mp hd
        have q := in_not (in_ints y (heads s e))
        refine ⟨?_, fun _ => ⟨by simp [P, b_ok, b_stuck, b_exc, a_def, f_ok, f_exc, k_rt, k_nx, a_do, a_set, a_set2, a_drop, a_ret, a_unp, a_seq, k_seq, k_seqr, k_seqb, k_seqc, a_op, k_op, a_c, a_var, a_b, k_b, a_then, k_and1, k_and0, k_or1, k_or0, k_andV1, k_andV0, k_orV1, k_orV0, k_if1, k_if0, k_ifS1, k_ifS0, k_ifT1, k_ifT0, k_notV, k_not, a_yes, a_no, a_next, a_never, a_par, k_par, a_for, k_for, a_i1, k_i1, a_io, k_io, a_call, k_call, a_callP, k_callP, a_chain, k_chain, a_mut, k_mut, a_sto, k_sto, a_lc, k_lc, a_new, a_gN, a_gT, d_lt, d_le, d_gt, d_ge, d_intB, ev, rds, chk, pAny, pTup, pInt, takeA, wbE, permL, padE, outE, gNs, own_int, own_bl, own_str, own_non, own_tup, own_ins, own_frl, own_lst, own_dic, dTup, dLst, dAdd, dSub, dMulS, dDiv, dMod, dNeg, dInt, dAbs, dIsN, dNotN, D.isNon, dLen, dItems, dIx, dTru, D.tru, D.seq, fSetL, fAppend, sizeLine_eq, rg1, rg2, rg3, rg4, rg5, rg6, rg7, rg8, a_raise, k_raise, a_par3, k_par3, a_try, kt_ok, kt_exc, hdl, sEnd, dropN, inR, dRev, a_fz, k_fzL, k_fzF, k_fzT, a_fzS, k_fzS], rfl⟩, by simp [P, wipeE]⟩
        simp [P, b_ok, b_stuck, b_exc, a_def, f_ok, f_exc, k_rt, k_nx, a_do, a_set, a_set2, a_drop, a_ret, a_unp, a_seq, k_seq, k_seqr, k_seqb, k_seqc, a_op, k_op, a_c, a_var, a_b, k_b, a_then, k_and1, k_and0, k_or1, k_or0, k_andV1, k_andV0, k_orV1, k_orV0, k_if1, k_if0, k_ifS1, k_ifS0, k_ifT1, k_ifT0, k_notV, k_not, a_yes, a_no, a_next, a_never, a_par, k_par, a_for, k_for, a_i1, k_i1, a_io, k_io, a_call, k_call, a_callP, k_callP, a_chain, k_chain, a_mut, k_mut, a_sto, k_sto, a_lc, k_lc, a_new, a_gN, a_gT, d_lt, d_le, d_gt, d_ge, d_intB, ev, rds, chk, pAny, pTup, pInt, takeA, wbE, permL, padE, outE, gNs, own_int, own_bl, own_str, own_non, own_tup, own_ins, own_frl, own_lst, own_dic, dTup, dLst, dAdd, dSub, dMulS, dDiv, dMod, dNeg, dInt, dAbs, dIsN, dNotN, D.isNon, dLen, dItems, dIx, dTru, D.tru, D.seq, fSetL, fAppend, sizeLine_eq, rg1, rg2, rg3, rg4, rg5, rg6, rg7, rg8, a_raise, k_raise, a_par3, k_par3, a_try, kt_ok, kt_exc, hdl, sEnd, dropN, inR, dRev, a_fz, k_fzL, k_fzF, k_fzT, a_fzS, k_fzS, q]) (by have := oh.2.2.1; simp [sizeLine_eq]; omega)
    rw [lst_filter_ints _ _ (fun y => !decide (y ∈ heads s e)) (fun y => rfl), List.nil_append] at lc2
    have f0 : (heads (highL s m) e).filter (fun y => !decide (y ∈ heads s e)) = [] := List.filter_eq_nil_iff.mpr fun y hy => by
      obtain ⟨a, b⟩ := heads_iff.mp hy
      have := heads_iff.mpr ⟨(hg_mem.mp a).1, hg_head nd a b⟩
      simp [this]
    rw [f0] at lc2
    have run := for_inv (tg := gN 8) (b := b__law_right_5) (I := fun _ ρ => ∃ o8, ρ = P (some (.tup ((highL s m).map .int))) (some (rowD (highL s m) e .non)) (some (.tup ((heads (highL s m) e).map .int))) (some (.tup ((heads s e).map .int))) o8) ((heads (highL s m) e).map D.int) 0 (P (some (.tup ((highL s m).map .int))) (some (rowD (highL s m) e .non)) (some (.tup ((heads (highL s m) e).map .int))) (some (.tup ((heads s e).map .int))) none) (fun i d ρ hd hI => by
      obtain ⟨o, rfl⟩ := hI
      rw [List.getElem?_map, Option.map_eq_some_iff] at hd
      obtain ⟨y, hy, rfl⟩ := hd
      obtain ⟨yc, yh⟩ := heads_iff.mp (List.mem_of_getElem? hy)
      have ym := (hg_mem.mp yc).1
      have yh2 := hg_head nd yc yh
      have w1 := e_sense_ok (highL s m) e .non y yc oh.2.2.1 yh
      have w2 := e_sense_ok s e (rD r) y ym hl yh2
      have w3 := d_lsense s e y nd h1 h2 ym hl (head_lt yh2)
      have w5 : snsI (highL s m) y = snsI s y := by unfold snsI; rw [hg_sns nd yc (head_lt yh)]
      rw [w5] at w1
      have w4 := d_neI (snsI s y) (snsI s y)
      rw [decide_eq_true rfl] at w4
      refine ⟨_, P (some (.tup ((highL s m).map .int))) (some (rowD (highL s m) e .non)) (some (.tup ((heads (highL s m) e).map .int))) (some (.tup ((heads s e).map .int))) (some (.int y)), rfl, ?_, _, rfl⟩
      simp [P, b__law_right_5, b_ok, b_stuck, b_exc, a_def, f_ok, f_exc, k_rt, k_nx, a_do, a_set, a_set2, a_drop, a_ret, a_unp, a_seq, k_seq, k_seqr, k_seqb, k_seqc, a_op, k_op, a_c, a_var, a_b, k_b, a_then, k_and1, k_and0, k_or1, k_or0, k_andV1, k_andV0, k_orV1, k_orV0, k_if1, k_if0, k_ifS1, k_ifS0, k_ifT1, k_ifT0, k_notV, k_not, a_yes, a_no, a_next, a_never, a_par, k_par, a_for, k_for, a_i1, k_i1, a_io, k_io, a_call, k_call, a_callP, k_callP, a_chain, k_chain, a_mut, k_mut, a_sto, k_sto, a_lc, k_lc, a_new, a_gN, a_gT, d_lt, d_le, d_gt, d_ge, d_intB, ev, rds, chk, pAny, pTup, pInt, takeA, wbE, permL, padE, outE, gNs, own_int, own_bl, own_str, own_non, own_tup, own_ins, own_frl, own_lst, own_dic, dTup, dLst, dAdd, dSub, dMulS, dDiv, dMod, dNeg, dInt, dAbs, dIsN, dNotN, D.isNon, dLen, dItems, dIx, dTru, D.tru, D.seq, fSetL, fAppend, sizeLine_eq, rg1, rg2, rg3, rg4, rg5, rg6, rg7, rg8, a_raise, k_raise, a_par3, k_par3, a_try, kt_ok, kt_exc, hdl, sEnd, dropN, inR, dRev, a_fz, k_fzL, k_fzF, k_fzT, a_fzS, k_fzS, own_row, w1, w2, w3, w4]) ⟨none, rfl⟩
    obtain ⟨ρ', e9, o8, rfl⟩ := run
    simp only [P, List.map_nil] at lc1 lc2 e9
    generalize highL s m = H at *
    unfold F__law_right m__law_right
    simp [b_ok, b_stuck, b_exc, a_def, f_ok, f_exc, k_rt, k_nx, a_do, a_set, a_set2, a_drop, a_ret, a_unp, a_seq, k_seq, k_seqr, k_seqb, k_seqc, a_op, k_op, a_c, a_var, a_b, k_b, a_then, k_and1, k_and0, k_or1, k_or0, k_andV1, k_andV0, k_orV1, k_orV0, k_if1, k_if0, k_ifS1, k_ifS0, k_ifT1, k_ifT0, k_notV, k_not, a_yes, a_no, a_next, a_never, a_par, k_par, a_for, k_for, a_i1, k_i1, a_io, k_io, a_call, k_call, a_callP, k_callP, a_chain, k_chain, a_mut, k_mut, a_sto, k_sto, a_lc, k_lc, a_new, a_gN, a_gT, d_lt, d_le, d_gt, d_ge, d_intB, ev, rds, chk, pAny, pTup, pInt, takeA, wbE, permL, padE, outE, gNs, own_int, own_bl, own_str, own_non, own_tup, own_ins, own_frl, own_lst, own_dic, dTup, dLst, dAdd, dSub, dMulS, dDiv, dMod, dNeg, dInt, dAbs, dIsN, dNotN, D.isNon, dLen, dItems, dIx, dTru, D.tru, D.seq, fSetL, fAppend, sizeLine_eq, rg1, rg2, rg3, rg4, rg5, rg6, rg7, rg8, a_raise, k_raise, a_par3, k_par3, a_try, kt_ok, kt_exc, hdl, sEnd, dropN, inR, dRev, a_fz, k_fzL, k_fzF, k_fzT, a_fzS, k_fzS, own_row, f_stones, f_ends, f_rule, wipeE, lc1, dTupOf_lst, k1, n0, k6, k7, k4, n1, lc2, n2, ↓e9]

theorem p30 : dPow [.int 10, .int 30] = some (.int 1000000000000000000000000000000) := by
  have h : L2.CPow 10 30 := by unfold L2.CPow; decide
  show (if L2.CPow 10 30 then some (D.int (10 ^ (30 : Int).toNat)) else none) = _
  rw [if_pos h]
  rfl

theorem q30 (ρ : TV.Env) : mOp [.tmp (mC (.int 10)) pAny, .tmp (mC (.int 30)) pAny] dPow ρ = .ok (.int 1000000000000000000000000000000, ρ) := op_run (ps := [some (.int 10), some (.int 30)]) (ds := [.int 10, .int 30]) rfl rfl p30

theorem stage2 (S : D) (a b : Int) (o2 o7 o8 : Option D) (s : List Int) (e : Int) (r : Option (List Int)) (h : Src a b) (os : okS s) (h1 : 0 ≤ e) (h2 : e ≤ 3) : ∃ (a' b' : Int) (o7' o8' : Option D), Src a' b' ∧ mSeq (mDo (mLc [9] (mIO [.tmp (mC (.int 3)) pAny] dR1) (gN 9) (mYes) (u_law_1)) (kSet 7)) (mFor (mI1 (mOp [.var 7 pAny, .tmp (mOp [.tmp (mOp [.var 3 pAny] dMinS) pAny, .tmp (mOp [.var 3 pAny] dMaxS) pAny, .tmp (mOp [.tmp (mOp [.var 3 pAny] dMaxS) pAny, .tmp (mC (.int 1)) pAny] dAdd) pAny, .tmp (mOp [.tmp (mC (.int 0)) pAny, .tmp (mOp [.tmp (mC (.int 10)) pAny, .tmp (mC (.int 30)) pAny] dPow) pAny] dSub) pAny, .tmp (mOp [.tmp (mC (.int 10)) pAny, .tmp (mC (.int 30)) pAny] dPow) pAny] dLst) pAny] dAdd) D.seq) (gN 8) b_law_2)
      [some S, some (src a b), o2, some (.tup (s.map .int)), some (.int e), some (rD r), some (rowD s e (rD r)), o7, o8, none] = .ok (.nx, [some S, some (src a' b'), o2, some (.tup (s.map .int)), some (.int e), some (rD r), some (rowD s e (rD r)), o7', o8', none]) := by
  have ne := os.ne
  have hl := os.2.2.1
  have m1 := mx_tup ne
  have m2 := mn_tup ne
  let I : Nat → TV.Env → List D → Prop := fun k ρ acc => ∃ (a b : Int) (w : List Int), Src a b ∧ w.length = k ∧ acc = w.map .int ∧ ρ = [some S, some (src a b), o2, some (.tup (s.map .int)), some (.int e), some (rD r), some (rowD s e (rD r)), o7, o8, none]
  obtain ⟨ρ', acc', e2, a2, b2, w, s2, w1, rfl, rfl⟩ := lc_inv (vs := [9]) (i := 9) (t := mYes) (u := u_law_1) (I := I) (dRng 0 3) 0 [some S, some (src a b), o2, some (.tup (s.map .int)), some (.int e), some (rD r), some (rowD s e (rD r)), o7, o8, none] [] ⟨a, b, [], h, rfl, rfl, rfl⟩ (by simp [dRng, sizeLine_eq]) (fun j d ρ acc hd hI => by
    obtain ⟨a2, b2, w, s2, w1, rfl, rfl⟩ := hI
    obtain ⟨a3, b3, x, s3, hx, e3⟩ := e_oneT a2 b2 s s2 ne (by omega)
    obtain ⟨a4, b4, y, s4, hy, e4⟩ := e_one a3 b3 [0, 0, 1, -1] s3 (by decide) (by decide)
    simp only [List.map_cons, List.map_nil] at e4
    refine .inl ⟨_, [some S, some (src a4 b4), o2, some (.tup (s.map .int)), some (.int e), some (rD r), some (rowD s e (rD r)), o7, o8, some d], .int (x + y), rfl, ?_, rfl, a4, b4, w ++ [x + y], s4, by simp [w1], by simp, by simp [wipeE]⟩
    simp [u_law_1, b_ok, b_stuck, b_exc, a_def, f_ok, f_exc, k_rt, k_nx, a_do, a_set, a_set2, a_drop, a_ret, a_unp, a_seq, k_seq, k_seqr, k_seqb, k_seqc, a_op, k_op, a_c, a_var, a_b, k_b, a_then, k_and1, k_and0, k_or1, k_or0, k_andV1, k_andV0, k_orV1, k_orV0, k_if1, k_if0, k_ifS1, k_ifS0, k_ifT1, k_ifT0, k_notV, k_not, a_yes, a_no, a_next, a_never, a_par, k_par, a_for, k_for, a_i1, k_i1, a_io, k_io, a_call, k_call, a_callP, k_callP, a_chain, k_chain, a_mut, k_mut, a_sto, k_sto, a_lc, k_lc, a_new, a_gN, a_gT, d_lt, d_le, d_gt, d_ge, d_intB, ev, rds, chk, pAny, pTup, pInt, takeA, wbE, permL, padE, outE, gNs, own_int, own_bl, own_str, own_non, own_tup, own_ins, own_frl, own_lst, own_dic, dTup, dLst, dAdd, dSub, dMulS, dDiv, dMod, dNeg, dInt, dAbs, dIsN, dNotN, D.isNon, dLen, dItems, dIx, dTru, D.tru, D.seq, fSetL, fAppend, sizeLine_eq, rg1, rg2, rg3, rg4, rg5, rg6, rg7, rg8, a_raise, k_raise, a_par3, k_par3, a_try, kt_ok, kt_exc, hdl, sEnd, dropN, inR, dRev, a_fz, k_fzL, k_fzF, k_fzT, a_fzS, k_fzS, e3, e4])
  have er : ∀ ρ : TV.Env, mIO [.tmp (mC (.int 3)) pAny] dR1 ρ = .ok (dRng 0 3, ρ) := fun ρ => io_run (ds := [.int 3]) (ps := [some (.int 3)]) rfl rfl (range_1 3 (by omega))
  have w1 : w.length = 3 := by simp [dRng] at w1; omega
  have run : ∀ (l : List Int) (o8 : Option D), ∃ o8', forL (gN 8) b_law_2 (l.map D.int) [some S, some (src a2 b2), o2, some (.tup (s.map .int)), some (.int e), some (rD r), some (rowD s e (rD r)), some (.lst (w.map .int)), o8, none] = .ok (.nx, [some S, some (src a2 b2), o2, some (.tup (s.map .int)), some (.int e), some (rD r), some (rowD s e (rD r)), some (.lst (w.map .int)), o8', none]) := fun l o8 => by
    obtain ⟨ρ', e1, o, rfl⟩ := for_inv (tg := gN 8) (b := b_law_2) (I := fun _ ρ => ∃ o8, ρ = [some S, some (src a2 b2), o2, some (.tup (s.map .int)), some (.int e), some (rD r), some (rowD s e (rD r)), some (.lst (w.map .int)), o8, none]) (l.map D.int) 0 [some S, some (src a2 b2), o2, some (.tup (s.map .int)), some (.int e), some (rD r), some (rowD s e (rD r)), some (.lst (w.map .int)), o8, none] (fun i d ρ hd hI => by
      obtain ⟨o, rfl⟩ := hI
      rw [List.getElem?_map, Option.map_eq_some_iff] at hd
      obtain ⟨x, hx, rfl⟩ := hd
      have k := e_right s e x r os h1 h2
      refine ⟨_, [some S, some (src a2 b2), o2, some (.tup (s.map .int)), some (.int e), some (rD r), some (rowD s e (rD r)), some (.lst (w.map .int)), some (.int x), none], rfl, ?_, _, rfl⟩
      simp [b_law_2, b_ok, b_stuck, b_exc, a_def, f_ok, f_exc, k_rt, k_nx, a_do, a_set, a_set2, a_drop, a_ret, a_unp, a_seq, k_seq, k_seqr, k_seqb, k_seqc, a_op, k_op, a_c, a_var, a_b, k_b, a_then, k_and1, k_and0, k_or1, k_or0, k_andV1, k_andV0, k_orV1, k_orV0, k_if1, k_if0, k_ifS1, k_ifS0, k_ifT1, k_ifT0, k_notV, k_not, a_yes, a_no, a_next, a_never, a_par, k_par, a_for, k_for, a_i1, k_i1, a_io, k_io, a_call, k_call, a_callP, k_callP, a_chain, k_chain, a_mut, k_mut, a_sto, k_sto, a_lc, k_lc, a_new, a_gN, a_gT, d_lt, d_le, d_gt, d_ge, d_intB, ev, rds, chk, pAny, pTup, pInt, takeA, wbE, permL, padE, outE, gNs, own_int, own_bl, own_str, own_non, own_tup, own_ins, own_frl, own_lst, own_dic, dTup, dLst, dAdd, dSub, dMulS, dDiv, dMod, dNeg, dInt, dAbs, dIsN, dNotN, D.isNon, dLen, dItems, dIx, dTru, D.tru, D.seq, fSetL, fAppend, sizeLine_eq, rg1, rg2, rg3, rg4, rg5, rg6, rg7, rg8, a_raise, k_raise, a_par3, k_par3, a_try, kt_ok, kt_exc, hdl, sEnd, dropN, inR, dRev, a_fz, k_fzL, k_fzF, k_fzT, a_fzS, k_fzS, own_row, k]) ⟨o8, rfl⟩
    exact ⟨o, e1⟩
  obtain ⟨o8', e5⟩ := run (w ++ [mn s, mx s, mx s + 1, -1000000000000000000000000000000, 1000000000000000000000000000000]) o8
  have ad := add_lstI w [mn s, mx s, mx s + 1, -1000000000000000000000000000000, 1000000000000000000000000000000] (by simp [w1])
  simp only [List.map_cons, List.map_nil] at ad
  refine ⟨a2, b2, some (.lst (w.map .int)), o8', s2, ?_⟩
  rw [List.map_append] at e5
  simp only [List.map_cons, List.map_nil] at e5
  simp [b_ok, b_stuck, b_exc, a_def, f_ok, f_exc, k_rt, k_nx, a_do, a_set, a_set2, a_drop, a_ret, a_unp, a_seq, k_seq, k_seqr, k_seqb, k_seqc, a_op, k_op, a_c, a_var, a_b, k_b, a_then, k_and1, k_and0, k_or1, k_or0, k_andV1, k_andV0, k_orV1, k_orV0, k_if1, k_if0, k_ifS1, k_ifS0, k_ifT1, k_ifT0, k_notV, k_not, a_yes, a_no, a_next, a_never, a_par, k_par, a_for, k_for, a_i1, k_i1, a_io, k_io, a_call, k_call, a_callP, k_callP, a_chain, k_chain, a_mut, k_mut, a_sto, k_sto, a_lc, k_lc, a_new, a_gN, a_gT, d_lt, d_le, d_gt, d_ge, d_intB, ev, rds, chk, pAny, pTup, pInt, takeA, wbE, permL, padE, outE, gNs, own_int, own_bl, own_str, own_non, own_tup, own_ins, own_frl, own_lst, own_dic, dTup, dLst, dAdd, dSub, dMulS, dDiv, dMod, dNeg, dInt, dAbs, dIsN, dNotN, D.isNon, dLen, dItems, dIx, dTru, D.tru, D.seq, fSetL, fAppend, sizeLine_eq, rg1, rg2, rg3, rg4, rg5, rg6, rg7, rg8, a_raise, k_raise, a_par3, k_par3, a_try, kt_ok, kt_exc, hdl, sEnd, dropN, inR, dRev, a_fz, k_fzL, k_fzF, k_fzT, a_fzS, k_fzS, ↓er, e2, wipeE, m1, m2, ↓q30, w1, ↓e5]

theorem body3 (a b : Int) (S : D) (k : Nat) (hk : k < 3) (o3 o4 o5 o6 o7 o8 : Option D) (h : Src a b) : ∃ a' b' o3' o4' o5' o6' o7' o8', Src a' b' ∧
    b_law_3 [some S, some (src a b), some (.int k), o3, o4, o5, o6, o7, o8, none] = .ok (.nx, [some S, some (src a' b'), some (.int k), o3', o4', o5', o6', o7', o8', none]) := by
  obtain ⟨a1, b1, s, e, r, s1, os, g1, g2, hr, e1⟩ := d_lrow a b 1 9 h (by omega) (by omega) (by omega)
  have e1 : F__law_row [some (src a b), some (.int 1), some (.int 9)] = .ok (.tup [.tup (s.map .int), .int e, rD r], [some (src a1 b1), some (.int 1), some (.int 9)]) := e1
  have q1 : dEq [.int k, .int 2] = some (.bl (decide (k = 2))) := by rw [d_eq]; congr 2; exact decide_eq_decide.mpr (by omega)
  have f1 := e_Row s e r os g1 g2 hr
  by_cases c : k = 2
  · rw [decide_eq_true c] at q1
    obtain ⟨a2, b2, t, s2, t1, t2, e2⟩ := e_take a1 b1 10 s1 (by decide) (by decide)
    have q2 : dEq [.int t, .int 9] = some (.bl (decide (t = 9))) := d_eq
    by_cases d : t = 9
    · rw [decide_eq_true d] at q2
      obtain ⟨a3, b3, s', e', r', s3, os', g1', g2', hr', e3⟩ := d_lrow a2 b2 40 40 s2 (by omega) (by omega) (by omega)
      have e3 : F__law_row [some (src a2 b2), some (.int 40), some (.int 40)] = .ok (.tup [.tup (s'.map .int), .int e', rD r'], [some (src a3 b3), some (.int 40), some (.int 40)]) := e3
      have f2 := e_Row s' e' r' os' g1' g2' hr'
      obtain ⟨a4, b4, o7', o8', s4, e4⟩ := stage2 S a3 b3 (some (.int k)) o7 o8 s' e' r' s3 os' g1' g2'
      refine ⟨a4, b4, some (.tup (s'.map .int)), some (.int e'), some (rD r'), some (rowD s' e' (rD r')), o7', o8', s4, ?_⟩
      unfold b_law_3
      simp [b_ok, b_stuck, b_exc, a_def, f_ok, f_exc, k_rt, k_nx, a_do, a_set, a_set2, a_drop, a_ret, a_unp, a_seq, k_seq, k_seqr, k_seqb, k_seqc, a_op, k_op, a_c, a_var, a_b, k_b, a_then, k_and1, k_and0, k_or1, k_or0, k_andV1, k_andV0, k_orV1, k_orV0, k_if1, k_if0, k_ifS1, k_ifS0, k_ifT1, k_ifT0, k_notV, k_not, a_yes, a_no, a_next, a_never, a_par, k_par, a_for, k_for, a_i1, k_i1, a_io, k_io, a_call, k_call, a_callP, k_callP, a_chain, k_chain, a_mut, k_mut, a_sto, k_sto, a_lc, k_lc, a_new, a_gN, a_gT, d_lt, d_le, d_gt, d_ge, d_intB, ev, rds, chk, pAny, pTup, pInt, takeA, wbE, permL, padE, outE, gNs, own_int, own_bl, own_str, own_non, own_tup, own_ins, own_frl, own_lst, own_dic, dTup, dLst, dAdd, dSub, dMulS, dDiv, dMod, dNeg, dInt, dAbs, dIsN, dNotN, D.isNon, dLen, dItems, dIx, dTru, D.tru, D.seq, fSetL, fAppend, sizeLine_eq, rg1, rg2, rg3, rg4, rg5, rg6, rg7, rg8, a_raise, k_raise, a_par3, k_par3, a_try, kt_ok, kt_exc, hdl, sEnd, dropN, inR, dRev, a_fz, k_fzL, k_fzF, k_fzT, a_fzS, k_fzS, e1, rD_own, q1, e2, q2, e3, f2, own_row, ↓e4]
    · rw [decide_eq_false d] at q2
      obtain ⟨a4, b4, o7', o8', s4, e4⟩ := stage2 S a2 b2 (some (.int k)) o7 o8 s e r s2 os g1 g2
      refine ⟨a4, b4, some (.tup (s.map .int)), some (.int e), some (rD r), some (rowD s e (rD r)), o7', o8', s4, ?_⟩
      unfold b_law_3
      simp [b_ok, b_stuck, b_exc, a_def, f_ok, f_exc, k_rt, k_nx, a_do, a_set, a_set2, a_drop, a_ret, a_unp, a_seq, k_seq, k_seqr, k_seqb, k_seqc, a_op, k_op, a_c, a_var, a_b, k_b, a_then, k_and1, k_and0, k_or1, k_or0, k_andV1, k_andV0, k_orV1, k_orV0, k_if1, k_if0, k_ifS1, k_ifS0, k_ifT1, k_ifT0, k_notV, k_not, a_yes, a_no, a_next, a_never, a_par, k_par, a_for, k_for, a_i1, k_i1, a_io, k_io, a_call, k_call, a_callP, k_callP, a_chain, k_chain, a_mut, k_mut, a_sto, k_sto, a_lc, k_lc, a_new, a_gN, a_gT, d_lt, d_le, d_gt, d_ge, d_intB, ev, rds, chk, pAny, pTup, pInt, takeA, wbE, permL, padE, outE, gNs, own_int, own_bl, own_str, own_non, own_tup, own_ins, own_frl, own_lst, own_dic, dTup, dLst, dAdd, dSub, dMulS, dDiv, dMod, dNeg, dInt, dAbs, dIsN, dNotN, D.isNon, dLen, dItems, dIx, dTru, D.tru, D.seq, fSetL, fAppend, sizeLine_eq, rg1, rg2, rg3, rg4, rg5, rg6, rg7, rg8, a_raise, k_raise, a_par3, k_par3, a_try, kt_ok, kt_exc, hdl, sEnd, dropN, inR, dRev, a_fz, k_fzL, k_fzF, k_fzT, a_fzS, k_fzS, e1, rD_own, q1, e2, q2, f1, own_row, ↓e4]
  · rw [decide_eq_false c] at q1
    obtain ⟨a4, b4, o7', o8', s4, e4⟩ := stage2 S a1 b1 (some (.int k)) o7 o8 s e r s1 os g1 g2
    refine ⟨a4, b4, some (.tup (s.map .int)), some (.int e), some (rD r), some (rowD s e (rD r)), o7', o8', s4, ?_⟩
    unfold b_law_3
    simp [b_ok, b_stuck, b_exc, a_def, f_ok, f_exc, k_rt, k_nx, a_do, a_set, a_set2, a_drop, a_ret, a_unp, a_seq, k_seq, k_seqr, k_seqb, k_seqc, a_op, k_op, a_c, a_var, a_b, k_b, a_then, k_and1, k_and0, k_or1, k_or0, k_andV1, k_andV0, k_orV1, k_orV0, k_if1, k_if0, k_ifS1, k_ifS0, k_ifT1, k_ifT0, k_notV, k_not, a_yes, a_no, a_next, a_never, a_par, k_par, a_for, k_for, a_i1, k_i1, a_io, k_io, a_call, k_call, a_callP, k_callP, a_chain, k_chain, a_mut, k_mut, a_sto, k_sto, a_lc, k_lc, a_new, a_gN, a_gT, d_lt, d_le, d_gt, d_ge, d_intB, ev, rds, chk, pAny, pTup, pInt, takeA, wbE, permL, padE, outE, gNs, own_int, own_bl, own_str, own_non, own_tup, own_ins, own_frl, own_lst, own_dic, dTup, dLst, dAdd, dSub, dMulS, dDiv, dMod, dNeg, dInt, dAbs, dIsN, dNotN, D.isNon, dLen, dItems, dIx, dTru, D.tru, D.seq, fSetL, fAppend, sizeLine_eq, rg1, rg2, rg3, rg4, rg5, rg6, rg7, rg8, a_raise, k_raise, a_par3, k_par3, a_try, kt_ok, kt_exc, hdl, sEnd, dropN, inR, dRev, a_fz, k_fzL, k_fzF, k_fzT, a_fzS, k_fzS, e1, rD_own, q1, f1, own_row, ↓e4]

theorem law_true (ns : List Int) (hn : ns.length ≤ 63) : ∃ τ, F_law [some (.frl (ns.map .int))] = .ok (.bl true, τ) := by
  obtain ⟨a0, b0, s0, e0⟩ := e_lpool ns 0 (by omega)
  have e0 : F__law_pool [some (.frl (ns.map .int)), some (.int 0)] = .ok (src a0 b0, [some (.frl (ns.map .int)), some (.int 0)]) := by simpa using e0
  have run := for_inv (tg := gN 2) (b := b_law_3) (I := fun _ ρ => ∃ (a b : Int) (o2 o3 o4 o5 o6 o7 o8 : Option D), Src a b ∧ ρ = [some (.frl (ns.map .int)), some (src a b), o2, o3, o4, o5, o6, o7, o8, none]) (dRng 0 3) 0 [some (.frl (ns.map .int)), some (src a0 b0), none, none, none, none, none, none, none, none] (fun j d ρ hd hI => by
    obtain ⟨a, b, o2, o3, o4, o5, o6, o7, o8, s1, rfl⟩ := hI
    obtain ⟨hj, rfl⟩ := dRng_get hd
    obtain ⟨a', b', p3, p4, p5, p6, p7, p8, s2, e1⟩ := body3 a b (.frl (ns.map .int)) (0 + j) (by omega) o3 o4 o5 o6 o7 o8 s1
    exact ⟨_, _, rfl, e1, a', b', _, p3, p4, p5, p6, p7, p8, s2, rfl⟩) ⟨a0, b0, none, none, none, none, none, none, none, s0, rfl⟩
  obtain ⟨ρ', e1, a, b, o2, o3, o4, o5, o6, o7, o8, s1, rfl⟩ := run
  have er : ∀ ρ : TV.Env, mIO [.tmp (mC (.int 3)) pAny] dR1 ρ = .ok (dRng 0 3, ρ) := fun ρ => io_run (ds := [.int 3]) (ps := [some (.int 3)]) rfl rfl (range_1 3 (by omega))
  refine ⟨[some (.frl (ns.map .int))], ?_⟩
  unfold F_law m_law
  simp [b_ok, b_stuck, b_exc, a_def, f_ok, f_exc, k_rt, k_nx, a_do, a_set, a_set2, a_drop, a_ret, a_unp, a_seq, k_seq, k_seqr, k_seqb, k_seqc, a_op, k_op, a_c, a_var, a_b, k_b, a_then, k_and1, k_and0, k_or1, k_or0, k_andV1, k_andV0, k_orV1, k_orV0, k_if1, k_if0, k_ifS1, k_ifS0, k_ifT1, k_ifT0, k_notV, k_not, a_yes, a_no, a_next, a_never, a_par, k_par, a_for, k_for, a_i1, k_i1, a_io, k_io, a_call, k_call, a_callP, k_callP, a_chain, k_chain, a_mut, k_mut, a_sto, k_sto, a_lc, k_lc, a_new, a_gN, a_gT, d_lt, d_le, d_gt, d_ge, d_intB, ev, rds, chk, pAny, pTup, pInt, takeA, wbE, permL, padE, outE, gNs, own_int, own_bl, own_str, own_non, own_tup, own_ins, own_frl, own_lst, own_dic, dTup, dLst, dAdd, dSub, dMulS, dDiv, dMod, dNeg, dInt, dAbs, dIsN, dNotN, D.isNon, dLen, dItems, dIx, dTru, D.tru, D.seq, fSetL, fAppend, sizeLine_eq, rg1, rg2, rg3, rg4, rg5, rg6, rg7, rg8, a_raise, k_raise, a_par3, k_par3, a_try, kt_ok, kt_exc, hdl, sEnd, dropN, inR, dRev, a_fz, k_fzL, k_fzF, k_fzT, a_fzS, k_fzS, e0, ↓er, ↓e1]

end K58

open PySem PySem.W PyProof.Rows
set_option maxHeartbeats 0 in
theorem PySem.Challenge.cw_turnedvalleys_k58_high_stones_alone_holds : PySem.Challenge.rw_turnedvalleys_k58_high_stones_alone.Holds := by
  w_on; o_law; k_head; (case hw => w_witness2)
  k_fill
  refine TV.walk (l := PySem.Challenge.rw_turnedvalleys_k58_high_stones_alone) (k := 7) (x := "_law_script") rfl rfl ⟨rfl, by decide, by decide⟩ (fun w h Y => PySem.W.kIn_of Y) ?F
  case F =>
    intro w mg fa h KX G hmg
    refine' TV.end_imp ?hG ?hP K58.law_true (K58.all_mk KX G hmg ?n_abs ?n_dict ?n_enumerate ?n_int ?n_len ?n_list ?n_max ?n_min ?n_range ?n_sorted ?n_tuple ?c_BOTH_WALLS ?c_LEAST_LENGTH ?c_LEAST_LOT ?c_MOST_STONES ?c_OPEN ?c_STONE_LIMIT ?c_WALL ?c_WALL_AHEAD ?c_WALL_BEHIND ?aC_Row ?pg_Row ?hd_Row ?po_Row ?sa_Row ?mk_Row ?kc_Row ?na_Row_ends ?na_Row_rule ?na_Row_stones ?aC_Refused ?aC_BadSize ?xL_Refused ?xsa_Refused ?xga_Refused ?xgg_Refused ?xnb_Refused ?xin_Refused ?xkc_Refused ?xL_BadSize ?xsa_BadSize ?xga_BadSize ?xgg_BadSize ?xnb_BadSize ?xin_BadSize ?xkc_BadSize ?xne_BadSize ?r_t ?r_l ?r_c ?r_lc ?r_f ?r_pf ?r_cell ?r_sup ?r_opq ?r_top ?xs_BadSize_BadSize ?a__law_pool ?l__law_pool ?d__law_pool ?e__law_pool ?a__law_take ?l__law_take ?d__law_take ?e__law_take ?a__law_one ?l__law_one ?d__law_one ?e__law_one ?a__law_shuffled ?l__law_shuffled ?d__law_shuffled ?e__law_shuffled ?a__law_stones ?l__law_stones ?d__law_stones ?e__law_stones ?a__law_span ?l__law_span ?d__law_span ?e__law_span ?a__law_length ?l__law_length ?d__law_length ?e__law_length ?a__law_closers ?l__law_closers ?d__law_closers ?e__law_closers ?a__law_heads ?l__law_heads ?d__law_heads ?e__law_heads ?a__law_rule ?l__law_rule ?d__law_rule ?e__law_rule ?a__law_row ?l__law_row ?d__law_row ?e__law_row ?a_is_stone ?l_is_stone ?d_is_stone ?e_is_stone ?a_want_stones ?l_want_stones ?d_want_stones ?e_want_stones ?t_want_stones ?a_want_ends ?l_want_ends ?d_want_ends ?e_want_ends ?a_want_rule ?l_want_rule ?d_want_rule ?e_want_rule ?a_Row ?i_Row ?l_Row ?d_Row ?e_Row ?w_Row_ends_ ?w_Row_rule_ ?a_high ?l_high ?d_high ?e_high ?a_span ?l_span ?d_span ?e_span ?a_length_of ?l_length_of ?d_length_of ?e_length_of ?a_beside ?l_beside ?d_beside ?e_beside ?a_has_flag ?l_has_flag ?d_has_flag ?e_has_flag ?a_is_head ?l_is_head ?d_is_head ?e_is_head ?a_heads ?l_heads ?d_heads ?e_heads ?a_want_stone ?l_want_stone ?d_want_stone ?e_want_stone ?a_Row_place ?i_Row_place ?l_Row_place ?d_Row_place ?e_Row_place ?a_is_ahead ?l_is_ahead ?d_is_ahead ?e_is_ahead ?a_greatest ?l_greatest ?d_greatest ?e_greatest ?a_lower ?l_lower ?d_lower ?e_lower ?a_greater_child ?l_greater_child ?d_greater_child ?e_greater_child ?a_upper ?l_upper ?d_upper ?e_upper ?a_sense_of ?l_sense_of ?d_sense_of ?e_sense_of ?a_sense ?l_sense ?d_sense ?e_sense ?a__law_parent ?l__law_parent ?d__law_parent ?e__law_parent ?a__law_side ?l__law_side ?d__law_side ?e__law_side ?a__law_sense ?l__law_sense ?d__law_sense ?e__law_sense ?a__law_right ?l__law_right ?d__law_right ?e__law_right ?a_law ?l_law ?d_law ?e_law)
    (case n_abs => k_is); (case n_dict => k_is); (case n_enumerate => k_is); (case n_int => k_is); (case n_len => k_is); (case n_list => k_is); (case n_max => k_is); (case n_min => k_is); (case n_range => k_is); (case n_sorted => k_is); (case n_tuple => k_is); (case c_BOTH_WALLS => k_is); (case c_LEAST_LENGTH => k_is); (case c_LEAST_LOT => k_is); (case c_MOST_STONES => k_is); (case c_OPEN => k_is); (case c_STONE_LIMIT => k_is); (case c_WALL => k_is); (case c_WALL_AHEAD => k_is); (case c_WALL_BEHIND => k_is); (case aC_Row => k_is); (case pg_Row => k_is); (case hd_Row => k_is); (case po_Row => k_is); (case sa_Row => k_is); (case mk_Row => k_is); (case kc_Row => k_is); (case na_Row_ends => k_is); (case na_Row_rule => k_is); (case na_Row_stones => k_is); (case aC_Refused => k_is); (case aC_BadSize => k_is); (case xL_Refused => k_is); (case xsa_Refused => k_is); (case xga_Refused => k_is); (case xgg_Refused => k_is); (case xnb_Refused => k_is); (case xin_Refused => k_is); (case xkc_Refused => k_is); (case xL_BadSize => k_is); (case xsa_BadSize => k_is); (case xga_BadSize => k_is); (case xgg_BadSize => k_is); (case xnb_BadSize => k_is); (case xin_BadSize => k_is); (case xkc_BadSize => k_is); (case xne_BadSize => decide); (case r_t => k_is); (case r_l => k_is); (case r_c => k_is); (case r_lc => k_is); (case r_f => rfl); (case r_pf => (first | rfl | decide +kernel)); (case r_cell => k_is); (case r_sup => k_is); (case r_opq => k_is); (case r_top => (first | rfl | decide +kernel)); (case xs_BadSize_BadSize => k_is); (case a__law_pool => k_is); (case l__law_pool => k_is); (case d__law_pool => k_is); (case e__law_pool => k_is); (case a__law_take => k_is); (case l__law_take => k_is); (case d__law_take => k_is); (case e__law_take => k_is); (case a__law_one => k_is); (case l__law_one => k_is); (case d__law_one => k_is); (case e__law_one => k_is); (case a__law_shuffled => k_is); (case l__law_shuffled => k_is); (case d__law_shuffled => k_is); (case e__law_shuffled => k_is); (case a__law_stones => k_is); (case l__law_stones => k_is); (case d__law_stones => k_is); (case e__law_stones => k_is); (case a__law_span => k_is); (case l__law_span => k_is); (case d__law_span => k_is); (case e__law_span => k_is); (case a__law_length => k_is); (case l__law_length => k_is); (case d__law_length => k_is); (case e__law_length => k_is); (case a__law_closers => k_is); (case l__law_closers => k_is); (case d__law_closers => k_is); (case e__law_closers => k_is); (case a__law_heads => k_is); (case l__law_heads => k_is); (case d__law_heads => k_is); (case e__law_heads => k_is); (case a__law_rule => k_is); (case l__law_rule => k_is); (case d__law_rule => k_is); (case e__law_rule => k_is); (case a__law_row => k_is); (case l__law_row => k_is); (case d__law_row => k_is); (case e__law_row => k_is); (case a_is_stone => k_is); (case l_is_stone => k_is); (case d_is_stone => k_is); (case e_is_stone => k_is); (case a_want_stones => k_is); (case l_want_stones => k_is); (case d_want_stones => k_is); (case e_want_stones => k_is); (case t_want_stones => k_is); (case a_want_ends => k_is); (case l_want_ends => k_is); (case d_want_ends => k_is); (case e_want_ends => k_is); (case a_want_rule => k_is); (case l_want_rule => k_is); (case d_want_rule => k_is); (case e_want_rule => k_is); (case a_Row => k_is); (case i_Row => k_is); (case l_Row => k_is); (case d_Row => k_is); (case e_Row => k_is); (case w_Row_ends_ => k_is); (case w_Row_rule_ => k_is); (case a_high => k_is); (case l_high => k_is); (case d_high => k_is); (case e_high => k_is); (case a_span => k_is); (case l_span => k_is); (case d_span => k_is); (case e_span => k_is); (case a_length_of => k_is); (case l_length_of => k_is); (case d_length_of => k_is); (case e_length_of => k_is); (case a_beside => k_is); (case l_beside => k_is); (case d_beside => k_is); (case e_beside => k_is); (case a_has_flag => k_is); (case l_has_flag => k_is); (case d_has_flag => k_is); (case e_has_flag => k_is); (case a_is_head => k_is); (case l_is_head => k_is); (case d_is_head => k_is); (case e_is_head => k_is); (case a_heads => k_is); (case l_heads => k_is); (case d_heads => k_is); (case e_heads => k_is); (case a_want_stone => k_is); (case l_want_stone => k_is); (case d_want_stone => k_is); (case e_want_stone => k_is); (case a_Row_place => k_is); (case i_Row_place => k_is); (case l_Row_place => k_is); (case d_Row_place => k_is); (case e_Row_place => k_is); (case a_is_ahead => k_is); (case l_is_ahead => k_is); (case d_is_ahead => k_is); (case e_is_ahead => k_is); (case a_greatest => k_is); (case l_greatest => k_is); (case d_greatest => k_is); (case e_greatest => k_is); (case a_lower => k_is); (case l_lower => k_is); (case d_lower => k_is); (case e_lower => k_is); (case a_greater_child => k_is); (case l_greater_child => k_is); (case d_greater_child => k_is); (case e_greater_child => k_is); (case a_upper => k_is); (case l_upper => k_is); (case d_upper => k_is); (case e_upper => k_is); (case a_sense_of => k_is); (case l_sense_of => k_is); (case d_sense_of => k_is); (case e_sense_of => k_is); (case a_sense => k_is); (case l_sense => k_is); (case d_sense => k_is); (case e_sense => k_is); (case a__law_parent => k_is); (case l__law_parent => k_is); (case d__law_parent => k_is); (case e__law_parent => k_is); (case a__law_side => k_is); (case l__law_side => k_is); (case d__law_side => k_is); (case e__law_side => k_is); (case a__law_sense => k_is); (case l__law_sense => k_is); (case d__law_sense => k_is); (case e__law_sense => k_is); (case a__law_right => k_is); (case l__law_right => k_is); (case d__law_right => k_is); (case e__law_right => k_is); (case a_law => k_is); (case l_law => k_is); (case d_law => k_is); (case e_law => k_is); (case hG => rfl); (case hP => exact fun _ => trivial)
