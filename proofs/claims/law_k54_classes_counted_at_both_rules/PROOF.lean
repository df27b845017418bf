import PyProof.Rows.All
import Wide.All
import OpenK.AllK
import Wide.FinOn
import HandS.ForMost
import HandS.ForExc
import HandS.Conv
import HandS.Defaults
import HandS.MakeKw
import HandS.MakeKwOnly
import HandS.CallSlots
import HandS.Wide
import HandS.TupAny
import HandS.Strs
import HandS.Style
import HandS.SortInts
import HandS.SortRule
import HandS.Flow
import HandS.Lambda
import HandS.Deep
import HandS.Rev
import KE.DataMinMax
import HandS.SortOrd
import KE.KSortedM
import KE.KIndexOf
import KE.GoesEnum
import HandS.Words
import HandS.CallLocal
import HandS.EndTab
import HandS.More
import KE.KExcSuper
import HandS.ForSpec
import HandS.ExcField
import HandS.TryOnly
import HandS.IsInst
import HandS.RaiseMore
import KE.KExcIs
import HandS.DictComp
import HandS.Iter
import KE.DataFind
import HandS.TupMul
import KE.KDictDisplayH
import HandS.TupLen
import HandS.NoneIn
import KE.KNestM
import KE.GoesMore
import HandS.Zip
import KE.SortData
import KE.KDictOf
import HandS.Gcd
import KE.KMathGC
import HandS.SetFor
import KE.KDictPairs
import PyProof.ReprLen
import PyProof.StrLawsRepr
import PyProof.ReprRoads
import HandS.HotCalls
import PySem.Challenge.RW_turnedvalleys_k54_classes_counted_at_bot
set_option Elab.async false
set_option linter.all false
set_option maxRecDepth 100000
set_option maxHeartbeats 4000000
namespace TV
def nmT (P : PySem.Addr) : PySem.Str := if P = 193 then ("_law_refusals_right" : PySem.Str) ++ ".<locals>." ++ "<lambda>" else PySem.Str.empty
end TV
namespace TV
open PySem PySem.Spec PyProof.Rows L2
inductive D where
  | non | bl (b : Bool) | int (i : Int) | str (x : Str)
  | tup (xs : List D) | ins (c : Nat) (fs : List D) | frl (xs : List D) | frd (ks : List Key) (vs : List D) | frt (ks : List (List Int)) (vs : List D)
  | lst (xs : List D) | dic (ks : List Key) (vs : List D) | dct (ks : List (List Int)) (vs : List D)
  | dcn (ks : List (List (Option Int))) (vs : List D) | dco (ks : List (Option Int)) (vs : List D)
  | fnc (c : Nat)
def D.own : D → Bool
  | .lst _ => true
  | .dic _ _ => true
  | .dct _ _ => true
  | .dcn _ _ => true
  | .dco _ _ => true
  | _ => false
def fixO : HO → Bool
  | .tup _ => true
  | .frz _ _ => true
  | .ins _ _ _ => true
  | .xd _ => true
  | _ => false
def TabN (H : Hp) (P : Addr) : Prop := LamX.TabS H P (nmT P)
def tabO : HO → Bool
  | .tbl _ => true
  | _ => false
structure Fix (H H' : Hp) : Prop where
  ob : ∀ b o, H b = some o → fixO o = true → H' b = some o
  tab : ∀ P, TabN H P → TabN H' P
theorem Fix.refl {H : Hp} : Fix H H := ⟨fun _ _ h _ => h, fun _ h => h⟩
theorem Fix.trans {H H1 H2 : Hp} (a : Fix H H1) (b : Fix H1 H2) : Fix H H2 := ⟨fun c o h f => b.ob c o (a.ob c o h f) f, fun P h => b.tab P (a.tab P h)⟩
theorem Fix.same {H H' : Hp} (k : ∀ b o, H b = some o → H' b = some o) : Fix H H' := ⟨fun b o h _ => k b o h, fun _ h => h.ext k⟩
structure GG where
  K : PySem.W.Frag
  cl : Nat → Addr
  nm : Nat → List Str
  pin : Hp → Prop
  pinOk : ∀ H H' : Hp, Fix H H' → pin H → pin H'
  slot : Option Nat
  sval : V
  hot : Bool
abbrev GG.of (K : PySem.W.Frag) (cl : Nat → Addr) (nm : Nat → List Str) : GG := ⟨K, cl, nm, fun _ => True, fun _ _ _ _ => trivial, none, .non, false⟩
class NoSlot (G : GG) : Prop where
  h : G.slot = none
  c : G.hot = false
instance {K : PySem.W.Frag} {cl : Nat → Addr} {nm : Nat → List Str} : NoSlot (GG.of K cl nm) := ⟨rfl, rfl⟩
def FrL (K : PySem.W.Frag) (H : Hp) (a : Addr) (xs : List V) : Prop :=
  (∃ o, H a = some (.frz o (.lst xs))) ∨
    ∃ (o : Obj) (its : Array Value) (n : Nat), K.lookup a = some o ∧ o.cls = .type "list" ∧ o.dict = none ∧ o.data = .seq its n ∧ its.size ≤ sizeLine ∧ Vals xs its.toList
theorem FrL.sql {K : PySem.W.Frag} {H : Hp} {a : Addr} {xs : List V} (h : FrL K H a xs) : SqL K H a xs := by
  rcases h with ⟨o, h⟩ | h
  · exact .inl (.inr ⟨o, h⟩)
  · exact .inr h
def TupS (K : PySem.W.Frag) (H : Hp) (a : Addr) (xs : List V) : Prop :=
  (∃ o : Obj, H a = some (.frz o (.tup xs)) ∧ o.cls = .type "tuple" ∧ o.dict = none) ∨
    ∃ (o : Obj) (its : Array Value) (n : Nat), K.lookup a = some o ∧ o.cls = .type "tuple" ∧ o.dict = none ∧ o.data = .seq its n ∧ its.size ≤ sizeLine ∧ Vals xs its.toList
theorem TupS.sqt {K : PySem.W.Frag} {H : Hp} {a : Addr} {xs : List V} (h : TupS K H a xs) : SqT K H a xs := by
  rcases h with ⟨o, h, _, _⟩ | ⟨o, its, n, h1, h2, _, h3⟩
  · exact .inl (.inr ⟨o, h⟩)
  · exact .inr ⟨o, its, n, h1, h2, h3⟩
def tkH (ks : List Int) : Int := reduceHash (Builtin.Tuple.tupleHashOf (ks.map hashInt))
def entI (x : List Int × Addr × Value) : DictEntry := ⟨tkH x.1, .ref x.2.1, x.2.2⟩
abbrev P3 : List (List Int × Addr × V) → List (List Int × Addr × Value) → Prop := Paired fun (p : List Int × Addr × V) (q : List Int × Addr × Value) => p.1 = q.1 ∧ p.2.1 = q.2.1 ∧ RelV p.2.2 q.2.2
def dctO (a : Addr) (kvs : List (List Int × Addr × V)) : HO := .ext fun h => kvs.length ≤ sizeLine ∧ (a == sysModules) = false ∧ ∃ xs : List (List Int × Addr × Value), P3 kvs xs ∧
  ∃ o es ep, h.get? a = some o ∧ o.ExactDict ∧ o.data = .dict es ep ∧ es.toList = xs.map entI ∧ (xs.map (·.1)).Nodup
def hashO : Option Int → Int
  | none => reduceHash 0xFCA86420
  | some i => hashInt i
def oV : Option Int → V
  | none => .non
  | some i => .int i
def okIs : Option Int → Value → Bool
  | none, .none => true
  | none, _ => false
  | some i, v => v.isInt i
def tkN (ks : List (Option Int)) : Int := reduceHash (Builtin.Tuple.tupleHashOf (ks.map hashO))
def entN (x : List (Option Int) × Addr × Value) : DictEntry := ⟨tkN x.1, .ref x.2.1, x.2.2⟩
abbrev P3N : List (List (Option Int) × Addr × V) → List (List (Option Int) × Addr × Value) → Prop := Paired fun (p : List (Option Int) × Addr × V) (q : List (Option Int) × Addr × Value) => p.1 = q.1 ∧ p.2.1 = q.2.1 ∧ RelV p.2.2 q.2.2
def dcnO (a : Addr) (kvs : List (List (Option Int) × Addr × V)) : HO := .ext fun h => kvs.length ≤ sizeLine ∧ (a == sysModules) = false ∧ ∃ xs : List (List (Option Int) × Addr × Value), P3N kvs xs ∧
  ∃ o es ep, h.get? a = some o ∧ o.ExactDict ∧ o.data = .dict es ep ∧ es.toList = xs.map entN ∧ (xs.map (·.1)).Nodup
abbrev P2O : List (Option Int × V) → List (Option Int × Value) → Prop := Paired fun (p : Option Int × V) (q : Option Int × Value) => p.1 = q.1 ∧ RelV p.2 q.2
def dcoO (a : Addr) (kvs : List (Option Int × V)) : HO := .ext fun h => kvs.length ≤ sizeLine ∧ (a == sysModules) = false ∧ ∃ xs : List (Option Int × Value), P2O kvs xs ∧
  ∃ o es ep, h.get? a = some o ∧ o.ExactDict ∧ o.data = .dict es ep ∧ Paired (fun (e : DictEntry) (p : Option Int × Value) => okIs p.1 e.key = true ∧ e.hash = hashO p.1 ∧ e.val = p.2) es.toList xs ∧ (xs.map (·.1)).Nodup
theorem code_ext {c : Addr} {q : Str} {a : Addr} {φ : Heap → Prop} (hφ : ∀ h, φ h → ∃ o es ep, h.get? a = some o ∧ o.data = .dict es ep) : HO.ext φ ≠ LamX.CodeO c q := by
  intro h
  have e := HO.ext.inj h
  let oc : Obj := { cls := .none, data := .fields #[.none, .str q default] }
  let h0 : Heap := { objs := Array.replicate (c + 1) oc }
  have al : ∀ b o, h0.get? b = some o → o = oc := fun b o hb => by
    have := (Heap.get?_eq_some h0 b o).mp hb
    obtain ⟨h1, _⟩ := this
    have h1 : (Array.replicate (c + 1) oc)[b]? = some o := h1
    rw [Array.getElem?_replicate] at h1
    split at h1
    · exact (Option.some.inj h1).symm
    · cases h1
  have oc' : h0.get? c = some oc := (Heap.get?_eq_some h0 c oc).mpr ⟨by
    show (Array.replicate (c + 1) oc)[c]? = some oc
    rw [Array.getElem?_replicate, if_pos (Nat.lt_succ_self c)], rfl⟩
  have p : (∃ (oc : Obj) (vs : Array Value) (t : Tok), h0.get? c = some oc ∧ oc.data = .fields vs ∧ vs[1]? = some (.str q t)) := ⟨oc, _, default, oc', rfl, rfl⟩
  have z := (congrFun e h0).mpr p
  obtain ⟨o, es, ep, ho, hd⟩ := hφ h0 z
  rw [al a o ho] at hd
  cases hd
inductive MutO : HO → Prop
  | lst (xs : List V) : MutO (.lst xs)
  | dK (k : List (Key × V)) : MutO (.dK k)
  | dct (a : Addr) (k : List (List Int × Addr × V)) : MutO (dctO a k)
  | dcn (a : Addr) (k : List (List (Option Int) × Addr × V)) : MutO (dcnO a k)
  | dco (a : Addr) (k : List (Option Int × V)) : MutO (dcoO a k)
theorem MutO.fix {u : HO} (m : MutO u) : fixO u = false := by cases m <;> rfl
theorem MutO.tab {u : HO} (m : MutO u) : tabO u = false := by cases m <;> rfl
theorem MutO.code {u : HO} (m : MutO u) (c : Addr) (q : Str) : u ≠ LamX.CodeO c q := by
  cases m with
  | lst xs => intro h; cases h
  | dK k => intro h; cases h
  | dcn a k => exact code_ext fun h ⟨_, _, xs, _, o, es, ep, ho, _, hd, _⟩ => ⟨o, es, ep, ho, hd⟩
  | dco a k => exact code_ext fun h ⟨_, _, xs, _, o, es, ep, ho, _, hd, _⟩ => ⟨o, es, ep, ho, hd⟩
  | dct a k =>
    intro h
    have e := HO.ext.inj h
    let oc : Obj := { cls := .none, data := .fields #[.none, .str q default] }
    let h0 : Heap := { objs := Array.replicate (c + 1) oc }
    have al : ∀ b o, h0.get? b = some o → o = oc := fun b o hb => by
      have := (Heap.get?_eq_some h0 b o).mp hb
      obtain ⟨h1, _⟩ := this
      have h1 : (Array.replicate (c + 1) oc)[b]? = some o := h1
      rw [Array.getElem?_replicate] at h1
      split at h1
      · exact (Option.some.inj h1).symm
      · cases h1
    have hc : h0.get? c = some oc := (Heap.get?_eq_some h0 c oc).mpr ⟨by
      show (Array.replicate (c + 1) oc)[c]? = some oc
      rw [Array.getElem?_replicate, if_pos (Nat.lt_succ_self c)], rfl⟩
    have p : (∃ (oc : Obj) (vs : Array Value) (t : Tok), h0.get? c = some oc ∧ oc.data = .fields vs ∧ vs[1]? = some (.str q t)) := ⟨oc, _, default, hc, rfl, rfl⟩
    have z := (congrFun e h0).mpr p
    obtain ⟨_, _, xs, _, o, es, ep, ho, _, hd, _⟩ := z
    rw [al a o ho] at hd
    cases hd
mutual
inductive RV (G : GG) (H : Hp) : D → V → Prop
  | non : RV G H .non .non
  | bl (b : Bool) : RV G H (.bl b) (.bl b)
  | int (i : Int) : RV G H (.int i) (.int i)
  | str (x : Str) : RV G H (.str x) (.str x)
  | tup {ds : List D} {a : Addr} {vs : List V} (h : TupS G.K H a vs) (r : RVs G H ds vs) : RV G H (.tup ds) (.ref a)
  | ins {c : Nat} {fs : List D} {a dx : Addr} {vs : List V} (h : H a = some (.ins (G.cl c) dx ((G.nm c).zip vs))) (l : (G.nm c).length = vs.length) (r : RVs G H fs vs) : RV G H (.ins c fs) (.ref a)
  | frl {ds : List D} {a : Addr} {vs : List V} (h : FrL G.K H a vs) (r : RVs G H ds vs) : RV G H (.frl ds) (.ref a)
  | frd {ks : List Key} {ds : List D} {a : Addr} {vs : List V} (h : ∃ o, H a = some (.frz o (.dK (ks.zip vs)))) (l : ks.length = ds.length) (r : RVs G H ds vs) : RV G H (.frd ks ds) (.ref a)
  | frt {ks : List (List Int)} {ds : List D} {a : Addr} {kvs : List (List Int × Addr × V)} (h : ∃ o, H a = some (.frz o (dctO a kvs))) (e : ks = kvs.map (·.1)) (t : ∀ p ∈ kvs, TupS G.K H p.2.1 (p.1.map V.int)) (r : RVs G H ds (kvs.map (·.2.2))) : RV G H (.frt ks ds) (.ref a)
  | fnc (c : Nat) : RV G H (.fnc c) (.ref (G.cl c))
inductive RVs (G : GG) (H : Hp) : List D → List V → Prop
  | nil : RVs G H [] []
  | cons {d : D} {ds : List D} {v : V} {vs : List V} (h : RV G H d v) (r : RVs G H ds vs) : RVs G H (d :: ds) (v :: vs)
end

theorem Fix.tupS {K : PySem.W.Frag} {H H' : Hp} {a : Addr} {vs : List V} (k : Fix H H') (h : TupS K H a vs) : TupS K H' a vs := by
  rcases h with ⟨o, h, r⟩ | h
  · exact .inl ⟨o, k.ob _ _ h rfl, r⟩
  · exact .inr h
theorem Fix.frl {K : PySem.W.Frag} {H H' : Hp} {a : Addr} {vs : List V} (k : Fix H H') (h : FrL K H a vs) : FrL K H' a vs := by
  rcases h with ⟨o, h⟩ | h
  · exact .inl ⟨o, k.ob _ _ h rfl⟩
  · exact .inr h
mutual
theorem RV.mono {G : GG} {H H' : Hp} (k : Fix H H') : ∀ {d : D} {v : V}, RV G H d v → RV G H' d v
  | _, _, .non => .non
  | _, _, .bl b => .bl b
  | _, _, .int i => .int i
  | _, _, .str x => .str x
  | _, _, .tup h r => .tup (k.tupS h) (RVs.mono k r)
  | _, _, .ins h l r => .ins (k.ob _ _ h rfl) l (RVs.mono k r)
  | _, _, .frl h r => .frl (k.frl h) (RVs.mono k r)
  | _, _, .frd h l r => .frd (h.elim fun o e => ⟨o, k.ob _ _ e rfl⟩) l (RVs.mono k r)
  | _, _, .frt h e t r => .frt (h.elim fun o e => ⟨o, k.ob _ _ e rfl⟩) e (fun p hp => k.tupS (t p hp)) (RVs.mono k r)
  | _, _, .fnc c => .fnc c
theorem RVs.mono {G : GG} {H H' : Hp} (k : Fix H H') : ∀ {ds : List D} {vs : List V}, RVs G H ds vs → RVs G H' ds vs
  | _, _, .nil => .nil
  | _, _, .cons h r => .cons (RV.mono k h) (RVs.mono k r)
end
mutual
theorem RV.re {G G' : GG} {H : Hp} (h1 : G'.K = G.K) (h2 : G'.cl = G.cl) (h3 : G'.nm = G.nm) : ∀ {d : D} {v : V}, RV G H d v → RV G' H d v
  | _, _, .non => .non
  | _, _, .bl b => .bl b
  | _, _, .int i => .int i
  | _, _, .str x => .str x
  | _, _, .tup h r => .tup (by rw [h1]; exact h) (RVs.re h1 h2 h3 r)
  | _, _, .ins (dx := dx) h l r => .ins (dx := dx) (by rw [h2, h3]; exact h) (by rw [h3]; exact l) (RVs.re h1 h2 h3 r)
  | _, _, .frl h r => .frl (by rw [h1]; exact h) (RVs.re h1 h2 h3 r)
  | _, _, .frd h l r => .frd h l (RVs.re h1 h2 h3 r)
  | _, _, .frt h e t r => .frt h e (fun p hp => by rw [h1]; exact t p hp) (RVs.re h1 h2 h3 r)
  | _, _, .fnc c => by rw [← h2]; exact .fnc c
theorem RVs.re {G G' : GG} {H : Hp} (h1 : G'.K = G.K) (h2 : G'.cl = G.cl) (h3 : G'.nm = G.nm) : ∀ {ds : List D} {vs : List V}, RVs G H ds vs → RVs G' H ds vs
  | _, _, .nil => .nil
  | _, _, .cons h r => .cons (RV.re h1 h2 h3 h) (RVs.re h1 h2 h3 r)
end
theorem RVs.length {G : GG} {H : Hp} : ∀ {ds : List D} {vs : List V}, RVs G H ds vs → ds.length = vs.length
  | _, _, .nil => rfl
  | _, _, .cons _ r => congrArg Nat.succ r.length
theorem RVs.get {G : GG} {H : Hp} : ∀ {ds : List D} {vs : List V} {i : Nat} {d : D}, RVs G H ds vs → ds[i]? = some d → ∃ v, vs[i]? = some v ∧ RV G H d v
  | _, _, _, _, .nil, e => by simp at e
  | _, _, 0, _, .cons h _, e => by simp at e; subst e; exact ⟨_, rfl, h⟩
  | _, _, i + 1, _, .cons _ r, e => by
    obtain ⟨v, e1, e2⟩ := r.get (by simpa using e)
    exact ⟨v, by simpa using e1, e2⟩
theorem RVs.getV {G : GG} {H : Hp} : ∀ {ds : List D} {vs : List V} {i : Nat} {v : V}, RVs G H ds vs → vs[i]? = some v → ∃ d, ds[i]? = some d ∧ RV G H d v
  | _, _, _, _, .nil, e => by simp at e
  | _, _, 0, _, .cons h _, e => by simp at e; subst e; exact ⟨_, rfl, h⟩
  | _, _, i + 1, _, .cons _ r, e => by
    obtain ⟨v, e1, e2⟩ := r.getV (by simpa using e)
    exact ⟨v, by simpa using e1, e2⟩
theorem RVs.app {G : GG} {H : Hp} : ∀ {ds es : List D} {vs ws : List V}, RVs G H ds vs → RVs G H es ws → RVs G H (ds ++ es) (vs ++ ws)
  | _, _, _, _, .nil, s => s
  | _, _, _, _, .cons h r, s => .cons h (r.app s)
theorem RVs.take {G : GG} {H : Hp} : ∀ {ds : List D} {vs : List V} (n : Nat), RVs G H ds vs → RVs G H (ds.take n) (vs.take n)
  | _, _, 0, _ => .nil
  | _, _, _ + 1, .nil => .nil
  | _, _, n + 1, .cons h r => .cons h (r.take n)
theorem RVs.drop {G : GG} {H : Hp} : ∀ {ds : List D} {vs : List V} (n : Nat), RVs G H ds vs → RVs G H (ds.drop n) (vs.drop n)
  | _, _, 0, r => r
  | _, _, _ + 1, .nil => .nil
  | _, _, n + 1, .cons _ r => r.drop n
theorem RVs.set {G : GG} {H : Hp} {d : D} {v : V} (q : RV G H d v) : ∀ {ds : List D} {vs : List V} (i : Nat), RVs G H ds vs → RVs G H (ds.set i d) (vs.set i v)
  | _, _, _, .nil => .nil
  | _, _, 0, .cons _ r => .cons q r
  | _, _, i + 1, .cons h r => .cons h (r.set q i)
theorem RVs.reverse {G : GG} {H : Hp} : ∀ {ds : List D} {vs : List V}, RVs G H ds vs → RVs G H ds.reverse vs.reverse
  | _, _, .nil => .nil
  | _, _, .cons h r => by
    rw [List.reverse_cons, List.reverse_cons]
    exact r.reverse.app (.cons h .nil)
theorem RVs.ints {G : GG} {H : Hp} : ∀ {ns : List Int} {vs : List V}, RVs G H (ns.map D.int) vs → vs = ns.map V.int
  | [], _, .nil => rfl
  | n :: ns, _, .cons h r => by
    cases h
    rw [r.ints]
    rfl
theorem RVs.of_ints {G : GG} {H : Hp} : ∀ (ns : List Int), RVs G H (ns.map D.int) (ns.map V.int)
  | [] => .nil
  | n :: ns => .cons (.int n) (RVs.of_ints ns)
def RS (G : GG) (H : Hp) : D → V → Prop
  | .lst ds, v => ∃ a vs, v = .ref a ∧ H a = some (.lst vs) ∧ RVs G H ds vs
  | .dic ks ds, v => ∃ a vs, v = .ref a ∧ H a = some (.dK (ks.zip vs)) ∧ ks.length = ds.length ∧ RVs G H ds vs
  | .dct ks ds, v => ∃ a kvs, v = .ref a ∧ H a = some (dctO a kvs) ∧ ks = kvs.map (·.1) ∧ (∀ p ∈ kvs, TupS G.K H p.2.1 (p.1.map V.int)) ∧ RVs G H ds (kvs.map (·.2.2))
  | .dcn ks ds, v => ∃ a kvs, v = .ref a ∧ H a = some (dcnO a kvs) ∧ ks = kvs.map (·.1) ∧ (∀ p ∈ kvs, TupS G.K H p.2.1 (p.1.map oV)) ∧ RVs G H ds (kvs.map (·.2.2))
  | .dco ks ds, v => ∃ a kvs, v = .ref a ∧ H a = some (dcoO a kvs) ∧ ks = kvs.map (·.1) ∧ RVs G H ds (kvs.map (·.2))
  | d, v => RV G H d v
theorem RS.rv {G : GG} {H : Hp} {d : D} {v : V} (h : RS G H d v) (o : d.own = false) : RV G H d v := by
  cases d <;> first | exact h | cases o
theorem RV.rs {G : GG} {H : Hp} {d : D} {v : V} (h : RV G H d v) : RS G H d v := by
  cases h with
  | non => exact .non
  | bl b => exact .bl b
  | int i => exact .int i
  | str x => exact .str x
  | tup h r => exact .tup h r
  | ins h l r => exact .ins h l r
  | frl h r => exact .frl h r
  | frd h l r => exact .frd h l r
  | frt h e t r => exact .frt h e t r
  | fnc c => exact .fnc c
theorem RV.plain {G : GG} {H : Hp} {d : D} {v : V} (h : RV G H d v) : d.own = false := by
  cases h <;> rfl
theorem RS.at {G : GG} {H : Hp} {d : D} {v : V} (h : RS G H d v) (o : d.own = true) : ∃ a u, v = .ref a ∧ H a = some u ∧ MutO u := by
  cases d with
  | lst ds => obtain ⟨a, vs, e, q, _⟩ := h; exact ⟨a, _, e, q, .lst _⟩
  | dic ks ds => obtain ⟨a, vs, e, q, _⟩ := h; exact ⟨a, _, e, q, .dK _⟩
  | dct ks ds => obtain ⟨a, kvs, e, q, _⟩ := h; exact ⟨a, _, e, q, .dct _ _⟩
  | dcn ks ds => obtain ⟨a, kvs, e, q, _⟩ := h; exact ⟨a, _, e, q, .dcn _ _⟩
  | dco ks ds => obtain ⟨a, kvs, e, q, _⟩ := h; exact ⟨a, _, e, q, .dco _ _⟩
  | _ => cases o
theorem RS.keep {G : GG} {H H' : Hp} {d : D} {v : V} (h : RS G H d v) (k : Fix H H') (q : ∀ a o, v = .ref a → d.own = true → H a = some o → MutO o → H' a = some o) : RS G H' d v := by
  cases d with
  | lst ds => obtain ⟨a, vs, rfl, e, r⟩ := h; exact ⟨a, vs, rfl, q _ _ rfl rfl e (.lst _), r.mono k⟩
  | dic ks ds => obtain ⟨a, vs, rfl, e, l, r⟩ := h; exact ⟨a, vs, rfl, q _ _ rfl rfl e (.dK _), l, r.mono k⟩
  | dct ks ds => obtain ⟨a, kvs, rfl, e, l, t, r⟩ := h; exact ⟨a, kvs, rfl, q _ _ rfl rfl e (.dct _ _), l, fun p hp => k.tupS (t p hp), r.mono k⟩
  | dcn ks ds => obtain ⟨a, kvs, rfl, e, l, t, r⟩ := h; exact ⟨a, kvs, rfl, q _ _ rfl rfl e (.dcn _ _), l, fun p hp => k.tupS (t p hp), r.mono k⟩
  | dco ks ds => obtain ⟨a, kvs, rfl, e, l, r⟩ := h; exact ⟨a, kvs, rfl, q _ _ rfl rfl e (.dco _ _), l, r.mono k⟩
  | _ => exact RV.rs (RV.mono k (RS.rv h rfl))
theorem RS.re {G G' : GG} {H : Hp} (h1 : G'.K = G.K) (h2 : G'.cl = G.cl) (h3 : G'.nm = G.nm) {d : D} {v : V} (h : RS G H d v) : RS G' H d v := by
  cases d with
  | lst ds => obtain ⟨a, vs, e, q, r⟩ := h; exact ⟨a, vs, e, q, r.re h1 h2 h3⟩
  | dic ks ds => obtain ⟨a, vs, e, q, l, r⟩ := h; exact ⟨a, vs, e, q, l, r.re h1 h2 h3⟩
  | dct ks ds => obtain ⟨a, kvs, e, q, l, t, r⟩ := h; exact ⟨a, kvs, e, q, l, fun p hp => by rw [h1]; exact t p hp, r.re h1 h2 h3⟩
  | dcn ks ds => obtain ⟨a, kvs, e, q, l, t, r⟩ := h; exact ⟨a, kvs, e, q, l, fun p hp => by rw [h1]; exact t p hp, r.re h1 h2 h3⟩
  | dco ks ds => obtain ⟨a, kvs, e, q, l, r⟩ := h; exact ⟨a, kvs, e, q, l, r.re h1 h2 h3⟩
  | _ => exact RV.rs (RV.re h1 h2 h3 (RS.rv h rfl))
abbrev Env := List (Option D)
structure RE (G : GG) (ρ : Env) (σ : L2.St) (H : Hp) : Prop where
  len : ρ.length = σ.length
  val : ∀ (i : Nat) (d : D), ρ[i]? = some (some d) → ∃ v, σ[i]? = some (some v) ∧ RS G H d v
  sep : ∀ (i j : Nat) (d e : D) (a : Addr), ρ[i]? = some (some d) → ρ[j]? = some (some e) → d.own = true → e.own = true → σ[i]? = some (some (.ref a)) → σ[j]? = some (some (.ref a)) → i = j
  pin : G.pin H
  spin : ∀ i, G.slot = some i → σ[i]? = some (some G.sval)
theorem RE.noSpin {G : GG} [n : NoSlot G] {σ : L2.St} : ∀ i, G.slot = some i → σ[i]? = some (some G.sval) := fun i h => by
  rw [n.h] at h
  cases h
def own (ρ : Env) (σ : L2.St) (a : Addr) : Prop := ∃ (i : Nat) (d : D), ρ[i]? = some (some d) ∧ d.own = true ∧ σ[i]? = some (some (.ref a))
structure Fr (ρ : Env) (σ : L2.St) (H : Hp) (ρ' : Env) (σ' : L2.St) (H' : Hp) : Prop where
  ob : ∀ (b : Addr) (o : HO), H b = some o → tabO o = false → ¬ own ρ σ b → H' b = some o
  no : ∀ (b : Addr) (o : HO), H b = some o → ¬ own ρ σ b → ¬ own ρ' σ' b
  tb : ∀ (b : Addr) (o : HO), H b = some o → tabO o = true → ∃ o', H' b = some o' ∧ tabO o' = true
  tab : ∀ P, TabN H P → TabN H' P
theorem Fr.ap {ρ ρ' : Env} {σ σ' : L2.St} {H H' : Hp} (f : Fr ρ σ H ρ' σ' H') {b : Addr} {o : HO} (h : H b = some o) (t : tabO o = false) (n : ¬ own ρ σ b) : H' b = some o ∧ ¬ own ρ' σ' b := ⟨f.ob b o h t n, f.no b o h n⟩
theorem Fr.refl {ρ : Env} {σ : L2.St} {H : Hp} : Fr ρ σ H ρ σ H := ⟨fun _ _ h _ _ => h, fun _ _ _ n => n, fun _ o h t => ⟨o, h, t⟩, fun _ h => h⟩
theorem Fr.trans {ρ ρ1 ρ2 : Env} {σ σ1 σ2 : L2.St} {H H1 H2 : Hp} (a : Fr ρ σ H ρ1 σ1 H1) (b : Fr ρ1 σ1 H1 ρ2 σ2 H2) : Fr ρ σ H ρ2 σ2 H2 where
  ob := fun c o h t n => b.ob c o (a.ob c o h t n) t (a.no c o h n)
  no := fun c o h n => by
    cases t : tabO o with
    | false => exact b.no c o (a.ob c o h t n) (a.no c o h n)
    | true =>
      obtain ⟨o', h', _⟩ := a.tb c o h t
      exact b.no c o' h' (a.no c o h n)
  tb := fun c o h t => by
    obtain ⟨o', h', t'⟩ := a.tb c o h t
    exact b.tb c o' h' t'
  tab := fun P h => b.tab P (a.tab P h)
theorem Fr.stays {ρ ρ' : Env} {σ σ' : L2.St} {H H' : Hp} (f : Fr ρ σ H ρ' σ' H') {b : Addr} {o : HO} (h : H b = some o) (n : ¬ own ρ σ b) : (∃ o', H' b = some o') ∧ ¬ own ρ' σ' b := by
  refine ⟨?_, f.no b o h n⟩
  cases t : tabO o with
  | false => exact ⟨o, f.ob b o h t n⟩
  | true =>
    obtain ⟨o', h', _⟩ := f.tb b o h t
    exact ⟨o', h'⟩
theorem RE.there {G : GG} {ρ : Env} {σ : L2.St} {H : Hp} (r : RE G ρ σ H) {a : Addr} (h : own ρ σ a) : ∃ u, H a = some u ∧ MutO u := by
  obtain ⟨i, d, e1, e2, e3⟩ := h
  obtain ⟨v, e4, q⟩ := r.val i d e1
  rw [e3] at e4
  cases e4
  obtain ⟨b, u, e5, e6, e7⟩ := q.at e2
  cases e5
  exact ⟨u, e6, e7⟩
theorem RE.unowned {G : GG} {ρ : Env} {σ : L2.St} {H : Hp} (r : RE G ρ σ H) {b : Addr} {o : HO} (h : H b = some o) (f : fixO o = true) : ¬ own ρ σ b := fun z => by
  obtain ⟨u, e, m⟩ := r.there z
  rw [h] at e
  cases e
  rw [m.fix] at f
  cases f
theorem RE.unTab {G : GG} {ρ : Env} {σ : L2.St} {H : Hp} (r : RE G ρ σ H) {b : Addr} {o : HO} (h : H b = some o) (f : tabO o = true) : ¬ own ρ σ b := fun z => by
  obtain ⟨u, e, m⟩ := r.there z
  rw [h] at e
  cases e
  rw [m.tab] at f
  cases f
theorem fix_tab {o : HO} (f : fixO o = true) : tabO o = false := by cases o <;> first | rfl | cases f
theorem Fr.fix {G : GG} {ρ ρ' : Env} {σ σ' : L2.St} {H H' : Hp} (f : Fr ρ σ H ρ' σ' H') (r : RE G ρ σ H) : Fix H H' := ⟨fun b o h x => f.ob b o h (fix_tab x) (r.unowned h x), f.tab⟩
theorem Fr.of {G : GG} {ρ ρ' : Env} {σ σ' : L2.St} {H H' : Hp} (r : RE G ρ σ H) (h : ∀ (b : Addr) (o : HO), H b = some o → ¬ own ρ σ b → H' b = some o ∧ ¬ own ρ' σ' b) : Fr ρ σ H ρ' σ' H' where
  ob := fun b o hb _ n => (h b o hb n).1
  no := fun b o hb n => (h b o hb n).2
  tb := fun b o hb t => ⟨o, (h b o hb (r.unTab hb t)).1, t⟩
  tab := fun P z => by
    obtain ⟨ps, h1, h2, h3⟩ := z
    refine ⟨ps, (h P _ h1 (r.unTab h1 rfl)).1, h2, fun pos cv hc => ?_⟩
    obtain ⟨c, e1, e2⟩ := h3 pos cv hc
    refine ⟨c, e1, (h c _ e2 fun z => ?_).1⟩
    obtain ⟨u, e, m⟩ := r.there z
    rw [e2] at e
    exact m.code c _ (Option.some.inj e).symm
theorem tabS_upd {H : Hp} {a P : Addr} {u o : HO} (hu : H a = some u) (m : MutO u) (z : TabN H P) : TabN (upd H a o) P := by
  obtain ⟨ps, h1, h2, h3⟩ := z
  refine ⟨ps, ?_, h2, fun pos cv hc => ?_⟩
  · rw [upd_ne (fun e => by
      rw [e, hu] at h1
      have h1 := Option.some.inj h1
      have t := m.tab
      rw [h1] at t
      cases t)]
    exact h1
  · obtain ⟨c, e1, e2⟩ := h3 pos cv hc
    refine ⟨c, e1, ?_⟩
    rw [upd_ne (fun e => by
      rw [e, hu] at e2
      exact m.code a _ (Option.some.inj e2))]
    exact e2
theorem Fr.updD {ρ ρ' : Env} {σ σ' : L2.St} {H H' : Hp} {D : Addr} {u o : HO} (f : Fr ρ σ H ρ' σ' H') (hu : H' D = some u) (m : MutO u) (hD : H D = none ∨ own ρ σ D) : Fr ρ σ H ρ' σ' (upd H' D o) where
  ob := fun b x hb t n => by
    have : b ≠ D := fun z => by
      subst z
      rcases hD with z | z
      · rw [hb] at z; cases z
      · exact n z
    rw [upd_ne this]
    exact f.ob b x hb t n
  no := f.no
  tb := fun b x hb t => by
    obtain ⟨x', hx, tx⟩ := f.tb b x hb t
    have : b ≠ D := fun z => by
      subst z
      rw [hu] at hx
      cases hx
      rw [m.tab] at tx
      cases tx
    exact ⟨x', by rw [upd_ne this]; exact hx, tx⟩
  tab := fun P z => tabS_upd hu m (f.tab P z)
theorem Fr.less {ρ ρ' ρ2 : Env} {σ σ' σ2 : L2.St} {H H' : Hp} (f : Fr ρ σ H ρ' σ' H') (h : ∀ b, own ρ2 σ2 b → own ρ' σ' b) : Fr ρ σ H ρ2 σ2 H' := ⟨f.ob, fun b o hb n z => f.no b o hb n (h b z), f.tb, f.tab⟩
theorem Fr.more {ρ ρ' ρ2 : Env} {σ σ' σ2 : L2.St} {H H' : Hp} (f : Fr ρ σ H ρ' σ' H') (h : ∀ b, own ρ2 σ2 b → own ρ' σ' b ∨ H b = none ∨ own ρ σ b) : Fr ρ σ H ρ2 σ2 H' := ⟨f.ob, fun b o hb n z => by
  rcases h b z with z | z | z
  · exact f.no b o hb n z
  · rw [hb] at z; cases z
  · exact n z, f.tb, f.tab⟩
theorem Fr.from {ρ ρ' ρ0 : Env} {σ σ' σ0 : L2.St} {H H' : Hp} (f : Fr ρ σ H ρ' σ' H') (h : ∀ b, own ρ σ b → own ρ0 σ0 b) : Fr ρ0 σ0 H ρ' σ' H' := ⟨fun b o hb t n => f.ob b o hb t fun z => n (h b z), fun b o hb n => f.no b o hb fun z => n (h b z), f.tb, f.tab⟩
def Res (G : GG) (ρ : Env) (σ : L2.St) (H : Hp) (ρ' : Env) (σ' : L2.St) (H' : Hp) (d : D) (v : V) : Prop :=
  RS G H' d v ∧ ∀ a, v = .ref a → d.own = true → ¬ own ρ' σ' a ∧ (H a = none ∨ own ρ σ a)
theorem Res.of_rv {G : GG} {ρ ρ' : Env} {σ σ' : L2.St} {H H' : Hp} {d : D} {v : V} (h : RV G H' d v) : Res G ρ σ H ρ' σ' H' d v :=
  ⟨h.rs, fun a _ o => by rw [h.plain] at o; cases o⟩
theorem RE.re {G G' : GG} {ρ : Env} {σ : L2.St} {H : Hp} (h1 : G'.K = G.K) (h2 : G'.cl = G.cl) (h3 : G'.nm = G.nm) (p : G'.pin H) (sp : ∀ i, G'.slot = some i → σ[i]? = some (some G'.sval)) (r : RE G ρ σ H) : RE G' ρ σ H :=
  ⟨r.len, fun i d e => let ⟨v, e1, q⟩ := r.val i d e; ⟨v, e1, q.re h1 h2 h3⟩, r.sep, p, sp⟩
theorem Res.re {G G' : GG} {ρ ρ' : Env} {σ σ' : L2.St} {H H' : Hp} {d : D} {v : V} (h1 : G'.K = G.K) (h2 : G'.cl = G.cl) (h3 : G'.nm = G.nm) (r : Res G ρ σ H ρ' σ' H' d v) : Res G' ρ σ H ρ' σ' H' d v := ⟨r.1.re h1 h2 h3, r.2⟩
theorem Res.later {G : GG} {ρ ρ1 ρ2 : Env} {σ σ1 σ2 : L2.St} {H H1 H2 : Hp} {d : D} {v : V} (h : Res G ρ σ H ρ1 σ1 H1 d v) (r : RE G ρ1 σ1 H1) (f : Fr ρ1 σ1 H1 ρ2 σ2 H2) : Res G ρ σ H ρ2 σ2 H2 d v := by
  obtain ⟨q, n⟩ := h
  refine ⟨q.keep (f.fix r) fun a o e w z m => f.ob a o z m.tab (n a e w).1, fun a e w => ?_⟩
  obtain ⟨b, u, e1, e2, _⟩ := q.at w
  rw [e] at e1
  cases e1
  exact ⟨f.no a u e2 (n a e w).1, (n a e w).2⟩
theorem Res.ahead {G : GG} {ρ ρ1 ρ2 : Env} {σ σ1 σ2 : L2.St} {H H1 H2 : Hp} {d : D} {v : V} (h : Res G ρ1 σ1 H1 ρ2 σ2 H2 d v) (f : Fr ρ σ H ρ1 σ1 H1) : Res G ρ σ H ρ2 σ2 H2 d v := by
  refine ⟨h.1, fun a e w => ⟨(h.2 a e w).1, ?_⟩⟩
  by_cases q : own ρ σ a
  · exact .inr q
  · refine .inl ?_
    cases z : H a with
    | none => rfl
    | some o =>
      obtain ⟨⟨o', z1⟩, z2⟩ := f.stays z q
      rcases (h.2 a e w).2 with y | y
      · rw [z1] at y
        cases y
      · exact absurd y z2
theorem fix_upd {H : Hp} {a : Addr} {u o : HO} (hu : H a = some u) (fu : MutO u) : Fix H (upd H a o) := by
  refine ⟨fun b x hx f => ?_, fun P z => tabS_upd hu fu z⟩
  have : b ≠ a := fun z => by
    subst z
    rw [hu] at hx
    cases hx
    rw [fu.fix] at f
    cases f
  rw [upd_ne this]
  exact hx
theorem Fr.was {ρ ρ' : Env} {σ σ' : L2.St} {H H' : Hp} (f : Fr ρ σ H ρ' σ' H') {a : Addr} (ow : own ρ' σ' a) : H a = none ∨ own ρ σ a := by
  by_cases z : own ρ σ a
  · exact .inr z
  · cases y : H a with
    | none => exact .inl rfl
    | some o => exact absurd ow (f.no a o y z)
end TV
namespace TV
open PySem PySem.Spec PyProof.Rows L2
inductive R (α : Type) where
  | ok (a : α) | exc (c : Nat) (w : D) (ρ : Env) | stuck
def R.bind {α β : Type} : R α → (α → R β) → R β
  | .ok a, f => f a
  | .exc c w ρ, _ => .exc c w ρ
  | .stuck, _ => .stuck
inductive Out where
  | nx | rt (d : D) | bk | ct
abbrev ME := Env → R (D × Env)
abbrev MT := Env → R (Bool × Env)
abbrev MS := Env → R (Out × Env)
def SameBut (A : List Nat) (σ σ' : L2.St) : Prop := ∀ i : Nat, i ∉ A → σ'[i]? = σ[i]?
theorem SameBut.refl {A : List Nat} {σ : L2.St} : SameBut A σ σ := fun _ _ => rfl
theorem SameBut.trans {A B : List Nat} {σ σ1 σ2 : L2.St} (a : SameBut A σ σ1) (b : SameBut B σ1 σ2) : SameBut (A ++ B) σ σ2 := fun i h => by
  rw [List.mem_append, not_or] at h
  rw [b i h.2, a i h.1]
theorem SameBut.nil {σ σ' : L2.St} (a : SameBut [] σ σ') : σ' = σ := List.ext_getElem? fun i => a i (fun h => nomatch h)
def wexc (G : GG) (W : WX) (A : List Nat) (ρ : Env) (σ : L2.St) (H : Hp) (c : Nat) (w : D) (ρ' : Env) : Prop :=
  ∀ (σ' : L2.St) (H' : Hp) (dd : Addr) (fs : List (Str × V)) (v : V), RE G ρ' σ' H' → Fr ρ σ H ρ' σ' H' → SameBut A σ σ' → H' dd = some (.xd fs) → fs.lookup ("what" : Str) = some v → RV G H' w v → W (.ref (G.cl c)) (some dd) σ' H'
theorem wexc.later {G : GG} {W : WX} {A B : List Nat} {ρ ρ1 ρ' : Env} {σ σ1 : L2.St} {H H1 : Hp} {c : Nat} {w : D} (h : wexc G W (A ++ B) ρ σ H c w ρ') (f : Fr ρ σ H ρ1 σ1 H1) (s : SameBut A σ σ1) : wexc G W B ρ1 σ1 H1 c w ρ' :=
  fun σ' H' dd fs v r g t e1 e2 e3 => h σ' H' dd fs v r (f.trans g) (s.trans t) e1 e2 e3
def postE (G : GG) (W : WX) (ρ : Env) (σ : L2.St) (H : Hp) (Q : VK) : R (D × Env) → Prop
  | .ok (d, ρ') => ∀ v H', RE G ρ' σ H' → Fr ρ σ H ρ' σ H' → Res G ρ σ H ρ' σ H' d v → Q v H'
  | .exc c w ρ' => wexc G W [] ρ σ H c w ρ'
  | .stuck => False
def postT (G : GG) (W : WX) (ρ : Env) (σ : L2.St) (H : Hp) (Q : Bool → Hp → Prop) : R (Bool × Env) → Prop
  | .ok (b, ρ') => ∀ H', RE G ρ' σ H' → Fr ρ σ H ρ' σ H' → Q b H'
  | .exc c w ρ' => wexc G W [] ρ σ H c w ρ'
  | .stuck => False
def postS (G : GG) (W : WX) (A : List Nat) (ρ : Env) (σ : L2.St) (H : Hp) (E : Ends) : R (Out × Env) → Prop
  | .ok (.nx, ρ') => ∀ σ' H', RE G ρ' σ' H' → Fr ρ σ H ρ' σ' H' → SameBut A σ σ' → E.nx σ' H'
  | .ok (.bk, ρ') => ∀ σ' H', RE G ρ' σ' H' → Fr ρ σ H ρ' σ' H' → SameBut A σ σ' → E.bk σ' H'
  | .ok (.ct, ρ') => ∀ σ' H', RE G ρ' σ' H' → Fr ρ σ H ρ' σ' H' → SameBut A σ σ' → E.ct σ' H'
  | .ok (.rt d, ρ') => ∀ v σ' H', RE G ρ' σ' H' → Fr ρ σ H ρ' σ' H' → SameBut A σ σ' → Res G ρ σ H ρ' σ' H' d v → E.rt v H'
  | .exc c w ρ' => wexc G W A ρ σ H c w ρ'
  | .stuck => False
def rdE (G : GG) (W : WX) (m : ME) : TE := fun σ H Q => ∃ ρ, RE G ρ σ H ∧ postE G W ρ σ H Q (m ρ)
def rdT (G : GG) (W : WX) (m : MT) : TT := fun σ H Q => ∃ ρ, RE G ρ σ H ∧ postT G W ρ σ H Q (m ρ)
def rdS (G : GG) (W : WX) (A : List Nat) (m : MS) : TS := fun E σ H => ∃ ρ, RE G ρ σ H ∧ postS G W A ρ σ H E (m ρ)
theorem postE.ahead {G : GG} {W : WX} {ρ ρ1 : Env} {σ : L2.St} {H H1 : Hp} {Q : VK} {r : R (D × Env)} (h : postE G W ρ σ H Q r) (f : Fr ρ σ H ρ1 σ H1) : postE G W ρ1 σ H1 Q r := by
  cases r with
  | ok p => exact fun v H' q g s => h v H' q (f.trans g) (s.ahead f)
  | exc c w ρ' => exact wexc.later (A := []) (B := []) h f SameBut.refl
  | stuck => exact h
theorem postT.ahead {G : GG} {W : WX} {ρ ρ1 : Env} {σ : L2.St} {H H1 : Hp} {Q : Bool → Hp → Prop} {r : R (Bool × Env)} (h : postT G W ρ σ H Q r) (f : Fr ρ σ H ρ1 σ H1) : postT G W ρ1 σ H1 Q r := by
  cases r with
  | ok p => exact fun H' q g => h H' q (f.trans g)
  | exc c w ρ' => exact wexc.later (A := []) (B := []) h f SameBut.refl
  | stuck => exact h
theorem postS.ahead {G : GG} {W : WX} {A B : List Nat} {ρ ρ1 : Env} {σ σ1 : L2.St} {H H1 : Hp} {E : Ends} {r : R (Out × Env)} (h : postS G W (A ++ B) ρ σ H E r) (f : Fr ρ σ H ρ1 σ1 H1) (t : SameBut A σ σ1) : postS G W B ρ1 σ1 H1 E r := by
  cases r with
  | ok p =>
    obtain ⟨o, ρ'⟩ := p
    cases o with
    | nx => exact fun σ' H' q g s => h σ' H' q (f.trans g) (t.trans s)
    | bk => exact fun σ' H' q g s => h σ' H' q (f.trans g) (t.trans s)
    | ct => exact fun σ' H' q g s => h σ' H' q (f.trans g) (t.trans s)
    | rt d => exact fun v σ' H' q g s z => h v σ' H' q (f.trans g) (t.trans s) (z.ahead f)
  | exc c w ρ' => exact wexc.later h f t
  | stuck => exact h
abbrev SE (X : Cx) (G : GG) (W : WX) (e : Expr) (m : ME) : Prop := PE X e (rdE G W m)
abbrev ST (X : Cx) (G : GG) (W : WX) (e : Expr) (m : MT) : Prop := PT X e (rdT G W m)
abbrev SS (X : Cx) (G : GG) (W : WX) (st : Stmt) (A : List Nat) (m : MS) : Prop := PS X st (rdS G W A m)
abbrev SSs (X : Cx) (G : GG) (W : WX) (st : List Stmt) (A : List Nat) (m : MS) : Prop := PSs X st (rdS G W A m)
theorem pe_wk {X : Cx} {e : Expr} {t t' : TE} (h : PE X e t) (f : ∀ σ H Q, t' σ H Q → t σ H Q) : PE X e t' := ⟨fun pins s σ H Q I q => h.run pins s σ H Q I (f σ H Q q)⟩
theorem pt_wk {X : Cx} {e : Expr} {t t' : TT} (h : PT X e t) (f : ∀ σ H Q, t' σ H Q → t σ H Q) : PT X e t' := ⟨fun pins s σ H Q I q => h.run pins s σ H Q I (f σ H Q q)⟩
theorem ps_wk {X : Cx} {e : Stmt} {t t' : TS} (h : PS X e t) (f : ∀ E σ H, t' E σ H → t E σ H) : PS X e t' := ⟨fun pins s σ H E I q => h.run pins s σ H E I (f E σ H q)⟩
theorem pss_wk {X : Cx} {e : List Stmt} {t t' : TS} (h : PSs X e t) (f : ∀ E σ H, t' E σ H → t E σ H) : PSs X e t' := ⟨fun pins s σ H E I q => h.run pins s σ H E I (f E σ H q)⟩
structure CT (X : Cx) (G : GG) (W : WX) : Prop where
  k : G.K = X.K
  calm : G.hot = false → X.calm = true
  tk : Takes X W
  po : PassesOwn (model X.prog X.w) X.A X.env X.xe
  nd : X.N.Nodup
  un : X.A.units + 64 < cLine
  gd : X.A.guards = some []
theorem RE.same {G : GG} {ρ : Env} {σ : L2.St} {H H' : Hp} (r : RE G ρ σ H) (k : Same H H') : RE G ρ σ H' :=
  ⟨r.len, fun i d e => by
    obtain ⟨v, e1, q⟩ := r.val i d e
    exact ⟨v, e1, q.keep (.same k) fun a o _ _ h _ => k a o h⟩, r.sep, G.pinOk H H' (.same k) r.pin, r.spin⟩
theorem Fr.same {ρ : Env} {σ : L2.St} {H H' : Hp} (k : Same H H') : Fr ρ σ H ρ σ H' := ⟨fun b o h _ _ => k b o h, fun _ _ _ n => n, fun b o h t => ⟨o, k b o h, t⟩, fun _ z => z.ext k⟩
theorem Res.new {G : GG} {ρ : Env} {σ : L2.St} {H H' : Hp} {d : D} {v : V} (r : RE G ρ σ H) (q : RS G H' d v) (n : ∀ a, v = .ref a → d.own = true → H a = none) : Res G ρ σ H ρ σ H' d v :=
  ⟨q, fun a e w => ⟨fun z => (by
    obtain ⟨u, h, _⟩ := r.there z
    rw [n a e w] at h
    cases h), .inl (n a e w)⟩⟩
inductive Opd where
  | var (i : Nat) (p : D → Bool) | tmp (m : ME) (p : D → Bool)
def Met (G : GG) (p : D → Bool) (x : V) (H : Hp) : Prop := ∃ d, p d = true ∧ RS G H d x
def tO (G : GG) (W : WX) : Opd → TE
  | .var i p => fun σ H Q => tVar i σ H fun x H1 => Met G p x H1 ∧ Q x H1
  | .tmp m p => fun σ H Q => rdE G W m σ H fun x H1 => Met G p x H1 ∧ Q x H1
abbrev SO (X : Cx) (G : GG) (W : WX) (e : Expr) (o : Opd) : Prop := PE X e (tO G W o)
def tOs (G : GG) (W : WX) : List Opd → TA
  | [] => tNil
  | o :: os => tCons (tO G W o) (tOs G W os)
def chk {α : Type} (b : Bool) (r : R α) : R α := if b = true then r else .stuck
def ev : List Opd → Env → R (List (Option D) × Env)
  | [], ρ => .ok ([], ρ)
  | .var i p :: os, ρ => match ρ[i]? with
    | some (some d) => chk (p d) ((ev os ρ).bind fun q => .ok (none :: q.1, q.2))
    | _ => .stuck
  | .tmp m p :: os, ρ => (m ρ).bind fun q => chk (p q.1) ((ev os q.2).bind fun r => .ok (some q.1 :: r.1, r.2))
def rds : List Opd → List (Option D) → Env → Option (List D)
  | [], [], _ => some []
  | .var i _ :: os, _ :: xs, ρ => match ρ[i]? with
    | some (some d) => (rds os xs ρ).map (d :: ·)
    | _ => none
  | .tmp _ _ :: os, some d :: xs, ρ => (rds os xs ρ).map (d :: ·)
  | _, _, _ => none
inductive RSs (G : GG) (H : Hp) : List D → List V → Prop
  | nil : RSs G H [] []
  | cons {d : D} {ds : List D} {v : V} {vs : List V} (h : RS G H d v) (r : RSs G H ds vs) : RSs G H (d :: ds) (v :: vs)
def postO (G : GG) (W : WX) (os : List Opd) (ρ : Env) (σ : L2.St) (H : Hp) (Q : List V → Hp → Prop) : R (List (Option D) × Env) → Prop
  | .ok (xs, ρ') => ∀ vs H', RE G ρ' σ H' → Fr ρ σ H ρ' σ H' → (∀ ds, rds os xs ρ' = some ds → RSs G H' ds vs) → Q vs H'
  | .exc c w ρ' => wexc G W [] ρ σ H c w ρ'
  | .stuck => False
theorem opds_run {G : GG} {W : WX} {σ : L2.St} : ∀ {os : List Opd} {ρ : Env} {H : Hp} {Q : List V → Hp → Prop}, RE G ρ σ H → postO G W os ρ σ H Q (ev os ρ) → tOs G W os σ H Q
  | [], ρ, H, Q, r, h => h [] H r Fr.refl fun ds e => by cases e; exact .nil
  | .var i p :: os, ρ, H, Q, r, h => by
    unfold ev at h
    split at h
    case h_2 => exact h.elim
    rename_i d0 e0
    unfold chk at h
    split at h
    case isFalse => exact h.elim
    rename_i hp
    obtain ⟨v, e, rs0⟩ := r.val i d0 e0
    refine ⟨v, e, ⟨d0, hp, rs0⟩, opds_run (os := os) (ρ := ρ) r ?_⟩
    cases z : ev os ρ with
    | ok q =>
      rw [z] at h
      obtain ⟨xs, ρ'⟩ := q
      intro vs H' r' f q
      refine h (v :: vs) H' r' f fun ds e1 => ?_
      unfold rds at e1
      split at e1
      · rename_i d e2
        obtain ⟨v', e3, q3⟩ := r'.val i d e2
        rw [e] at e3
        cases e3
        cases y : rds os xs ρ' with
        | none => rw [y] at e1; cases e1
        | some ds' =>
          rw [y] at e1
          cases e1
          exact .cons q3 (q ds' y)
      · cases e1
    | exc c w ρ' =>
      rw [z] at h
      exact h
    | stuck =>
      rw [z] at h
      exact h
  | .tmp m p :: os, ρ, H, Q, r, h => by
    refine ⟨ρ, r, ?_⟩
    unfold ev at h
    cases z : m ρ with
    | ok q =>
      rw [z] at h
      obtain ⟨d, ρ1⟩ := q
      have h : postO G W (.tmp m p :: os) ρ σ H Q (chk (p d) ((ev os ρ1).bind fun r => .ok (some d :: r.1, r.2))) := h
      unfold chk at h
      split at h
      case isFalse => exact h.elim
      rename_i hp
      intro v H1 r1 f1 q1
      refine ⟨⟨d, hp, q1.1⟩, opds_run (os := os) (ρ := ρ1) r1 ?_⟩
      cases y : ev os ρ1 with
      | ok q =>
        rw [y] at h
        obtain ⟨xs, ρ2⟩ := q
        intro vs H2 r2 f2 q2
        refine h (v :: vs) H2 r2 (f1.trans f2) fun ds e1 => ?_
        have e1 : (rds os xs ρ2).map (d :: ·) = some ds := e1
        cases x : rds os xs ρ2 with
        | none =>
          rw [x] at e1
          cases e1
        | some ds' =>
          rw [x] at e1
          cases e1
          exact .cons (q1.later r1 f2).1 (q2 ds' x)
      | exc c w ρ' =>
        rw [y] at h
        exact wexc.later (A := []) (B := []) h f1 SameBut.refl
      | stuck =>
        rw [y] at h
        exact h
    | exc c w ρ' =>
      rw [z] at h
      exact h
    | stuck =>
      rw [z] at h
      exact h
end TV
namespace TV
open PySem PySem.Spec PyProof.Rows L2
mutual
def D.pd : D → Option PyData
  | .non => some .none
  | .bl b => some (.bool b)
  | .int i => some (.int i)
  | .str x => some (.str x)
  | .tup xs => (D.pds xs).map .tuple
  | .lst xs => (D.pds xs).map .list
  | .frl xs => (D.pds xs).map .list
  | .ins _ _ => none
  | .dic _ _ => none
  | .dct _ _ => none
  | .dcn _ _ => none
  | .dco _ _ => none
  | .frd _ _ => none
  | .frt _ _ => none
  | .fnc _ => none
def D.pds : List D → Option (List PyData)
  | [] => some []
  | d :: ds => match D.pd d, D.pds ds with
    | some p, some ps => some (p :: ps)
    | _, _ => none
end
mutual
theorem RV.dp {G : GG} {H : Hp} : ∀ {d : D} {v : V} {p : PyData}, RV G H d v → d.pd = some p → Dp G.K H v p
  | _, _, _, .non, e => by cases e; exact .non
  | _, _, _, .bl b, e => by cases e; exact .bl b
  | _, _, _, .int i, e => by cases e; exact .int i
  | _, _, _, .str x, e => by cases e; exact .str x
  | _, _, _, .tup (ds := ds) h r, e => by
    unfold D.pd at e
    cases z : D.pds ds with
    | none => rw [z] at e; cases e
    | some ps => rw [z] at e; cases e; exact .tup h.sqt (RVs.dp r z)
  | _, _, _, .ins h l r, e => by cases e
  | _, _, _, .frd h l r, e => by cases e
  | _, _, _, .frt h _ _ r, e => by cases e
  | _, _, _, .frl (ds := ds) h r, e => by
    unfold D.pd at e
    cases z : D.pds ds with
    | none => rw [z] at e; cases e
    | some ps => rw [z] at e; cases e; exact .lst h.sql (RVs.dp r z)
theorem RVs.dp {G : GG} {H : Hp} : ∀ {ds : List D} {vs : List V} {ps : List PyData}, RVs G H ds vs → D.pds ds = some ps → DpAll G.K H vs ps
  | _, _, _, .nil, e => by cases e; exact .nil
  | _, _, _, .cons (d := d) (ds := ds) h r, e => by
    unfold D.pds at e
    split at e
    · rename_i p ps e1 e2
      cases e
      exact .cons (RV.dp h e1) (RVs.dp r e2)
    · cases e
end
theorem RS.dp {G : GG} {H : Hp} {d : D} {v : V} {p : PyData} (h : RS G H d v) (e : d.pd = some p) : Dp G.K H v p := by
  cases d with
  | lst ds =>
    obtain ⟨a, vs, rfl, q, r⟩ := h
    unfold D.pd at e
    cases z : D.pds ds with
    | none => rw [z] at e; cases e
    | some ps => rw [z] at e; cases e; exact .lst (SqL.of q) (r.dp z)
  | dic ks ds => cases e
  | dct ks ds => cases e
  | dcn ks ds => cases e
  | dco ks ds => cases e
  | _ => exact RV.dp (RS.rv h rfl) e
def mOp (os : List Opd) (f : List D → Option D) : ME := fun ρ => (ev os ρ).bind fun p => match (rds os p.1 p.2).bind f with
  | some d => .ok (d, p.2)
  | none => .stuck
def Gives (G : GG) (H : Hp) (z : D) (Q : VK) : Prop := ∀ v H', Same H H' → RS G H' z v → (∀ a, v = .ref a → z.own = true → H a = none) → Q v H'
def VN (G : GG) (n : Nat) (r : List V → Hp → VK → Prop) (f : List D → Option D) : Prop := ∀ (H : Hp) (vs : List V) (ds : List D) (z : D) (Q : VK), ds.length = n → RSs G H ds vs → f ds = some z → Gives G H z Q → r vs H Q
theorem rds_len : ∀ {os : List Opd} {xs : List (Option D)} {ρ : Env} {ds : List D}, rds os xs ρ = some ds → ds.length = os.length
  | [], [], _, _, e => by cases e; rfl
  | [], _ :: _, _, _, e => by cases e
  | .var i _ :: os, [], _, _, e => by cases e
  | .tmp _ _ :: os, [], _, _, e => by cases e
  | .tmp _ _ :: os, none :: _, _, _, e => by cases e
  | .var i _ :: os, _ :: xs, ρ, ds, e => by
    unfold rds at e
    split at e
    · cases y : rds os xs ρ with
      | none => rw [y] at e; cases e
      | some ds' => rw [y] at e; cases e; exact congrArg Nat.succ (rds_len y)
    · cases e
  | .tmp _ _ :: os, some d :: xs, ρ, ds, e => by
    unfold rds at e
    cases y : rds os xs ρ with
    | none => rw [y] at e; cases e
    | some ds' => rw [y] at e; cases e; exact congrArg Nat.succ (rds_len y)
theorem mOp_rd {G : GG} {W : WX} {os : List Opd} {f : List D → Option D} {r : List V → Hp → VK → Prop} (h : VN G os.length r f) {σ : L2.St} {H : Hp} {Q : VK} (q : rdE G W (mOp os f) σ H Q) : tOs G W os σ H fun vs H1 => r vs H1 Q := by
  obtain ⟨ρ, re, q⟩ := q
  refine opds_run re ?_
  unfold mOp at q
  cases e : ev os ρ with
  | ok p =>
    rw [e] at q
    obtain ⟨xs, ρ'⟩ := p
    intro vs H' re' fr hq
    have q : postE G W ρ σ H Q (match (rds os xs ρ').bind f with | some d => .ok (d, ρ') | none => .stuck) := q
    cases e2 : rds os xs ρ' with
    | none => rw [e2] at q; exact q.elim
    | some ds =>
      rw [e2] at q
      have q : postE G W ρ σ H Q (match f ds with | some d => .ok (d, ρ') | none => .stuck) := q
      cases e3 : f ds with
      | none => rw [e3] at q; exact q.elim
      | some z =>
        rw [e3] at q
        refine h H' vs ds z Q (rds_len e2) (hq ds e2) e3 fun v H2 sm rs fresh => ?_
        exact q v H2 (re'.same sm) (fr.trans (Fr.same sm)) ((Res.new re' rs fresh).ahead fr)
  | exc c w ρ' => rw [e] at q; exact q
  | stuck => rw [e] at q; exact q
def V2 (G : GG) (r : R2) (f : List D → Option D) : Prop := ∀ (H : Hp) (x y : V) (d e z : D) (Q : VK), RS G H d x → RS G H e y → f [d, e] = some z → Gives G H z Q → r x y H Q
theorem mOp2_rd {G : GG} {W : WX} {a b : Opd} {f : List D → Option D} {r : R2} (h : V2 G r f) {σ : L2.St} {H : Hp} {Q : VK} (q : rdE G W (mOp [a, b] f) σ H Q) : tOp r (tO G W a) (tO G W b) σ H Q := by
  have k := mOp_rd (r := fun vs H Q => match vs with
    | [x, y] => r x y H Q
    | _ => False) (fun H vs ds z Q ln rs e g => ?_) q
  · exact k
  · cases rs with
    | nil => cases ln
    | cons h1 rs =>
      cases rs with
      | nil => cases ln
      | cons h2 rs =>
        cases rs with
        | nil => exact h H _ _ _ _ z Q h1 h2 e g
        | cons h3 rs => cases ln
def V1 (G : GG) (r : V → Hp → VK → Prop) (f : List D → Option D) : Prop := ∀ (H : Hp) (x : V) (d z : D) (Q : VK), RS G H d x → f [d] = some z → Gives G H z Q → r x H Q
theorem mOp1_rd {G : GG} {W : WX} {a : Opd} {f : List D → Option D} {r : V → Hp → VK → Prop} (h : V1 G r f) {σ : L2.St} {H : Hp} {Q : VK} (q : rdE G W (mOp [a] f) σ H Q) : tO G W a σ H fun x H1 => r x H1 Q := by
  have k := mOp_rd (r := fun vs H Q => match vs with
    | [x] => r x H Q
    | _ => False) (fun H vs ds z Q ln rs e g => ?_) q
  · exact k
  · cases rs with
    | nil => cases ln
    | cons h1 rs =>
      cases rs with
      | nil => exact h H _ _ z Q h1 e g
      | cons h2 rs => cases ln
def mC (d : D) : ME := fun ρ => .ok (d, ρ)
section
variable {X : Cx} {G : GG} {W : WX} {pos : Pos}
theorem rdC {d : D} {v : V} (h : ∀ H, RV G H d v) {σ : L2.St} {H : Hp} {Q : VK} (q : rdE G W (mC d) σ H Q) : Q v H := by
  obtain ⟨ρ, re, q⟩ := q
  exact q v H re Fr.refl (Res.of_rv (h H))
theorem se_int {i j} : SE X G W (.Constant (.int i) j pos) (mC (.int i)) := pe_wk pe_int fun σ H Q q => rdC (fun _ => .int i) q
theorem se_bl {b j} : SE X G W (.Constant (.bool b) j pos) (mC (.bl b)) := pe_wk pe_bl fun σ H Q q => rdC (fun _ => .bl b) q
theorem se_non {j} : SE X G W (.Constant .none j pos) (mC .non) := pe_wk pe_non fun σ H Q q => rdC (fun _ => .non) q
theorem se_str {x j} : SE X G W (.Constant (.str x) j pos) (mC (.str x)) := pe_wk pe_str fun σ H Q q => rdC (fun _ => .str x) q
theorem se_gi {x : Str} {i : Int} (hg : Gl X x) (hm : ∃ t, X.mg x = some (.int i t)) (hd : (x == ("__debug__" : Str)) = false := by decide) : SE X G W (.Name x pos) (mC (.int i)) := by
  obtain ⟨t, hm⟩ := hm
  exact pe_wk (pe_glob (v := .int i) hg hm ⟨t, rfl⟩ hd) fun σ H Q q => rdC (fun _ => .int i) q
def mVar (i : Nat) : ME := fun ρ => match ρ[i]? with
  | some (some d) => .ok (d, if d.own then ρ.set i none else ρ)
  | _ => .stuck
end
theorem RE.drop {G : GG} {ρ : Env} {σ : L2.St} {H : Hp} (r : RE G ρ σ H) (i : Nat) : RE G (ρ.set i none) σ H := by
  have back : ∀ (j : Nat) (d : D), (ρ.set i none)[j]? = some (some d) → ρ[j]? = some (some d) := fun j d e => by
    rw [List.getElem?_set] at e
    split at e
    · split at e <;> cases e
    · exact e
  exact ⟨by rw [List.length_set]; exact r.len, fun j d e => r.val j d (back j d e), fun j k d e a h1 h2 => r.sep j k d e a (back j d h1) (back k e h2), r.pin, r.spin⟩
theorem own_drop {ρ : Env} {σ : L2.St} {i : Nat} {a : Addr} (h : own (ρ.set i none) σ a) : own ρ σ a := by
  obtain ⟨j, d, e1, e2, e3⟩ := h
  refine ⟨j, d, ?_, e2, e3⟩
  rw [List.getElem?_set] at e1
  split at e1
  · split at e1 <;> cases e1
  · exact e1
theorem own_dropped {G : GG} {ρ : Env} {σ : L2.St} {H : Hp} (r : RE G ρ σ H) {i : Nat} {d : D} {a : Addr} (e1 : ρ[i]? = some (some d)) (e2 : d.own = true) (e3 : σ[i]? = some (some (.ref a))) : ¬ own (ρ.set i none) σ a := by
  rintro ⟨j, e, h1, h2, h3⟩
  rw [List.getElem?_set] at h1
  split at h1
  · split at h1 <;> cases h1
  · rename_i ne
    exact ne (r.sep i j d e a e1 h1 e2 h2 e3 h3)
section
variable {X : Cx} {G : GG} {W : WX} {pos : Pos}
theorem rdVar {i : Nat} {σ : L2.St} {H : Hp} {Q : VK} (q : rdE G W (mVar i) σ H Q) : tVar i σ H Q := by
  obtain ⟨ρ, re, q⟩ := q
  unfold mVar at q
  split at q
  · rename_i d e
    obtain ⟨v, e1, s⟩ := re.val i d e
    refine ⟨v, e1, ?_⟩
    by_cases o : d.own = true
    · rw [if_pos o] at q
      refine q v H (re.drop i) (Fr.refl.less fun b z => own_drop z) ⟨s, fun a ea _ => ?_⟩
      subst ea
      exact ⟨own_dropped re e o e1, .inr ⟨i, d, e, o, e1⟩⟩
    · rw [if_neg o] at q
      exact q v H re Fr.refl ⟨s, fun a _ w => absurd w o⟩
  · exact q.elim
theorem se_var {i : Nat} {x : Str} (h : PE X (.Name x pos) (tVar i)) : SE X G W (.Name x pos) (mVar i) := pe_wk h fun σ H Q q => rdVar q
def pAny : D → Bool := fun _ => true
theorem so_varC {i : Nat} {x : Str} (p : D → Bool) (h : PE X (.Name x pos) (tVar i)) : SO X G W (.Name x pos) (.var i p) := pe_wk h fun _ _ _ q => let ⟨v, e, _, q⟩ := q; ⟨v, e, q⟩
end
section
variable {X : Cx} {G : GG} {W : WX} {pos : Pos}
theorem rdE.mono {t : ME} {σ : L2.St} {H : Hp} {Q Q' : VK} (q : rdE G W t σ H Q) (f : ∀ v H1, Q v H1 → Q' v H1) : rdE G W t σ H Q' := by
  obtain ⟨ρ, re, q⟩ := q
  refine ⟨ρ, re, ?_⟩
  cases e : t ρ with
  | ok p => rw [e] at q; exact fun v H' r1 r2 r3 => f _ _ (q v H' r1 r2 r3)
  | exc c w ρ' => rw [e] at q; exact q
  | stuck => rw [e] at q; exact q
theorem so_tmpC {e : Expr} {m : ME} (p : D → Bool) (h : SE X G W e m) : SO X G W e (.tmp m p) := pe_wk h fun _ _ _ q => rdE.mono q fun _ _ z => z.2
theorem so_var {i : Nat} {x : Str} (h : PE X (.Name x pos) (tVar i)) : SO X G W (.Name x pos) (.var i pAny) := so_varC pAny h
theorem so_tmp {e : Expr} {m : ME} (h : SE X G W e m) : SO X G W e (.tmp m pAny) := so_tmpC pAny h
abbrev SOs (X : Cx) (G : GG) (W : WX) (es : List Expr) (os : List Opd) : Prop := PA X es (tOs G W os)
theorem so_nil : SOs X G W [] [] := pa_nil
theorem so_cons {e : Expr} {es : List Expr} {o : Opd} {os : List Opd} (h : SO X G W e o) (r : SOs X G W es os) (hs : starEach (e :: es) X.env = (false, eval e X.env) :: starEach es X.env := by rfl) : SOs X G W (e :: es) (o :: os) := pa_cons h r hs
end
end TV
namespace TV
open PySem PySem.Spec PyProof.Rows L2
theorem same_upd {H : Hp} {p : Addr} {o : HO} (h : H p = none) : Same H (upd H p o) := fun b x e => by
  rw [upd_ne (ne_of_none e h)]
  exact e
theorem sfix {H H' : Hp} (k : Same H H') : Fix H H' := .same k
theorem Gives.val {G : GG} {H : Hp} {z : D} {Q : VK} {v : V} (g : Gives G H z Q) (h : RV G H z v) : Q v H := g v H (Same.refl H) h.rs fun _ _ o => by
  rw [h.plain] at o
  cases o
def NewT (vs : List V) (H : Hp) (Q : VK) : Prop := ∀ (p : Addr) (o : Obj), o.cls = .type "tuple" → o.dict = none → H p = none → Q (.ref p) (upd H p (.frz o (.tup vs)))
theorem Gives.tup {G : GG} {H : Hp} {ds : List D} {vs : List V} {Q : VK} (g : Gives G H (.tup ds) Q) (r : RVs G H ds vs) : NewT vs H Q := fun p o h1 h2 h =>
  g _ _ (same_upd h) (.tup (.inl ⟨o, upd_same, h1, h2⟩) (r.mono (sfix (same_upd h)))) fun _ _ o => by cases o
theorem laidT {X : Cx} {pins : List (Addr × Obj)} {σ : L2.St} {H : Hp} {s : Shared} {vs : List V} {us : List Value} {Q : VK} (I : Inv X pins σ H s) (r : Vals vs us) (hz : vs.length ≤ sizeLine) (q : NewT vs H Q) :
    EP X pins σ Q (.ref s.heap.objs.size) { s with heap := s.heap.push { cls := .type "tuple", data := .seq us.toArray } } := by
  have I2 : Inv X pins σ (upd H s.heap.objs.size (.frz { cls := .type "tuple", data := .seq us.toArray } (.tup vs))) { s with heap := s.heap.push { cls := .type "tuple", data := .seq us.toArray } } :=
    I.laid (t' := s.toks) (fun b o e => Heap.get?_push_of_some _ e) (Nat.le_refl _) ⟨Heap.get?_push_size _ rfl, hz, us, r, ⟨_, Heap.get?_push_size _ rfl, rfl, _, rfl⟩⟩
  exact ⟨V.ref s.heap.objs.size, _, I2, rfl, q _ _ rfl rfl (I.hok.fresh (Nat.le_refl _))⟩
theorem Gives.lst {G : GG} {H : Hp} {ds : List D} {vs : List V} {Q : VK} (g : Gives G H (.lst ds) Q) (r : RVs G H ds vs) : ∀ p, H p = none → Q (.ref p) (upd H p (.lst vs)) := fun p h =>
  g _ _ (same_upd h) ⟨p, vs, rfl, upd_same, r.mono (sfix (same_upd h))⟩ fun a e _ => by
    cases e
    exact h
theorem RS.tupOf {G : GG} {H : Hp} {ds : List D} {v : V} (h : RS G H (.tup ds) v) : ∃ a vs, v = .ref a ∧ TupS G.K H a vs ∧ RVs G H ds vs := by
  cases h with
  | tup h r => exact ⟨_, _, rfl, h, r⟩
theorem RS.frlOf {G : GG} {H : Hp} {ds : List D} {v : V} (h : RS G H (.frl ds) v) : ∃ a vs, v = .ref a ∧ SqL G.K H a vs ∧ RVs G H ds vs := by
  cases h with
  | frl h r => exact ⟨_, _, rfl, h.sql, r⟩
theorem RS.lstOf {G : GG} {H : Hp} {ds : List D} {v : V} (h : RS G H (.lst ds) v) : ∃ a vs, v = .ref a ∧ H a = some (.lst vs) ∧ RVs G H ds vs := h
theorem RS.intOf {G : GG} {H : Hp} {i : Int} {v : V} (h : RS G H (.int i) v) : v = .int i := by cases h; rfl
theorem RS.blOf {G : GG} {H : Hp} {b : Bool} {v : V} (h : RS G H (.bl b) v) : v = .bl b := by cases h; rfl
theorem RS.strOf {G : GG} {H : Hp} {x : Str} {v : V} (h : RS G H (.str x) v) : v = .str x := by cases h; rfl
theorem RS.nonOf {G : GG} {H : Hp} {v : V} (h : RS G H .non v) : v = .non := by cases h; rfl
def rCatF (K : PySem.W.Frag) : R2 := fun x y H Q => ∃ a b xs ys, x = .ref a ∧ y = .ref b ∧ SqT K H a xs ∧ SqT K H b ys ∧ xs.length + ys.length ≤ sizeLine ∧ (xs = [] → Q (.ref b) H) ∧ (ys = [] → Q (.ref a) H) ∧ NewT (xs ++ ys) H Q
theorem op_catF {X : Cx} : OpR X (binaryOp .Add) (rCatF X.K) := by
  rintro pins s σ H x y v u Q I rx ry ⟨a, b, xs, ys, rfl, rfl, ha, hb, hz, q0, q1, q2⟩
  obtain ⟨it, r1, p1, _⟩ := I.tuple ha
  obtain ⟨jt, r2, p2, _⟩ := I.tuple hb
  cases rx; cases ry
  by_cases hx : xs = []
  · subst hx
    cases r1
    exact cat_tup0 p1 p2 ⟨.ref b, H, I, rfl, q0 rfl⟩
  · refine HT.cat_tup p1 p2 (fun z => hx (r1.nil_iff.mp z)) (fun z => ⟨.ref a, H, I, rfl, q1 (r2.nil_iff.mp z)⟩) (fun _ => ?_) (by rw [← r1.length, ← r2.length]; exact hz)
    exact laidT I (r1.append r2) (by rw [List.length_append]; exact hz) q2
def rSlF (K : PySem.W.Frag) : V → Option Int → Option Int → Hp → VK → Prop := fun x lo hi H Q => ∃ a xs, x = .ref a ∧ SqT K H a xs ∧
  (HT.sIx xs.length 0 lo = 0 ∧ HT.sIx xs.length xs.length hi = xs.length → Q (.ref a) H) ∧ NewT (cutV xs lo hi) H Q
theorem sl_tupF {X : Cx} : SlR X (rSlF X.K) := by
  rintro pins s σ H x v vl vu lo hi sl Q I rx hs pl pu ⟨a, xs, rfl, hx, q1, q2⟩
  obtain ⟨it, r, ht, hz⟩ := I.tuple hx
  have hlen : it.toArray.size = xs.length := by rw [List.size_toArray]; exact r.length.symm
  cases rx
  refine ⟨_, _, PyProof.Rows.slot_tuple_getitem.lookup, ht.typeIs, ?_⟩
  by_cases hw : HT.sIx xs.length 0 lo = 0 ∧ HT.sIx xs.length xs.length hi = xs.length
  · exact getItem_tuple_whole ht hs pl pu (by rw [hlen]; exact hw) ⟨.ref a, H, I, rfl, q1 hw⟩
  · refine HT.getItem_tuple_cut ht hs pl pu (by rw [hlen]; exact hw) ?_ (by rw [hlen]; exact hz)
    rw [hlen]
    exact laidT I ((r.drop _).take _) (Nat.le_trans (cutV_length xs lo hi) hz) q2
def rTupF (K : PySem.W.Frag) : List V → Hp → VK → Prop := fun xs H Q => ∃ p ys, xs = [.ref p] ∧ ((SqL K H p ys ∧ NewT ys H Q) ∨ (SqT K H p ys ∧ Q (.ref p) H))
theorem call_tupF {X : Cx} : CallR X (.type "tuple") (rTupF X.K) := by
  rintro pins s σ H xs us Q I r ⟨p, ys, rfl, h⟩
  obtain ⟨u, rfl, rx⟩ := vals1 r
  cases rx
  rcases h with ⟨hq, q⟩ | ⟨hq, q⟩
  · obtain ⟨it, rv, pl, hz⟩ := I.list hq
    refine call_tuple_list pl.isList (fun h' kp => ?_) (by rw [List.size_toArray, ← rv.length]; exact hz)
    exact laidT (s := { s with heap := h' }) (I.kept (t' := s.toks) kp) rv hz q
  · obtain ⟨it, rv, pl, _⟩ := I.tuple hq
    exact call_tuple_same pl ⟨.ref p, H, I, rfl, q⟩
def tTupF (t : TA) : TE := fun σ H Q => t σ H fun xs H1 => xs.length ≤ sizeLine ∧ NewT xs H1 Q
theorem pe_tupF {X : Cx} {es : List Expr} {t : TA} {x1} {pos : Pos} (h : PA X es t) : PE X (.Tuple es x1 pos) (tTupF t) := by
  refine ⟨fun pins s σ H Q I hq => ?_⟩
  refine wpAny_Tuple_spliced (thn (h.run pos pins s σ H _ I hq) fun us s1 ⟨xs, H1, I1, r, z, q⟩ => ⟨by rw [← r.length]; exact z, laidT I1 r z q⟩)
def dAdd : List D → Option D
  | [.int i, .int j] => some (.int (i + j))
  | [.int i, .bl k] => some (.int (i + b2i k))
  | [.str a, .str b] => if a.length + b.length ≤ sizeLine then some (.str (a ++ b)) else none
  | [.tup xs, .tup ys] => if xs.length + ys.length ≤ sizeLine then some (.tup (xs ++ ys)) else none
  | [.lst xs, .lst ys] => if xs.length + ys.length ≤ sizeLine then some (.lst (xs ++ ys)) else none
  | _ => none
abbrev rAddAll (K : PySem.W.Frag) : R2 := fun x y H Q => rI0 (fun i j => .int (i + j)) x y H Q ∨ (∃ i k, x = .int i ∧ y = .bl k ∧ Q (.int (i + b2i k)) H) ∨
  (∃ i j, x = .str i ∧ y = .str j ∧ i.length + j.length ≤ sizeLine ∧ Q (.str (i ++ j)) H) ∨ rCatF K x y H Q ∨ rCat x y H Q
theorem op_addAll {X : Cx} : OpR X (binaryOp .Add) (rAddAll X.K) := op_add.or (op_add_ib.or (op_add_str.or (op_catF.or op_cat)))
theorem v2_add {G : GG} : V2 G (rAddAll G.K) dAdd := by
  intro H x y d e z Q h1 h2 ef g
  unfold dAdd at ef
  split at ef
  · rename_i i j q
    cases q; cases ef
    rw [h1.intOf, h2.intOf]
    exact .inl ⟨i, j, rfl, rfl, g.val (.int _)⟩
  · rename_i i k q
    cases q; cases ef
    rw [h1.intOf, h2.blOf]
    exact .inr (.inl ⟨i, k, rfl, rfl, g.val (.int _)⟩)
  · rename_i a b q
    cases q
    split at ef
    · rename_i l
      cases ef
      rw [h1.strOf, h2.strOf]
      exact .inr (.inr (.inl ⟨a, b, rfl, rfl, l, g.val (.str _)⟩))
    · cases ef
  · rename_i xs ys q
    cases q
    split at ef
    · rename_i l
      cases ef
      obtain ⟨a, vs, rfl, s1, r1⟩ := h1.tupOf
      obtain ⟨b, ws, rfl, s2, r2⟩ := h2.tupOf
      refine .inr (.inr (.inr (.inl ⟨a, b, vs, ws, rfl, rfl, s1.sqt, s2.sqt, by rw [← r1.length, ← r2.length]; exact l, fun z => ?_, fun z => ?_, g.tup (r1.app r2)⟩)))
      · subst z
        cases r1
        exact g.val (.tup s2 r2)
      · subst z
        cases r2
        rw [List.append_nil] at g
        exact g.val (.tup s1 r1)
    · cases ef
  · rename_i xs ys q
    cases q
    split at ef
    · rename_i l
      cases ef
      obtain ⟨a, vs, rfl, s1, r1⟩ := h1.lstOf
      obtain ⟨b, ws, rfl, s2, r2⟩ := h2.lstOf
      exact .inr (.inr (.inr (.inr ⟨a, b, vs, ws, rfl, rfl, s1, s2, by rw [← r1.length, ← r2.length]; exact l, g.lst (r1.app r2)⟩)))
    · cases ef
  · cases ef
def dSub : List D → Option D
  | [.int i, .int j] => some (.int (i - j))
  | _ => none
theorem v2_sub {G : GG} : V2 G (rI0 fun i j => .int (i - j)) dSub := by
  intro H x y d e z Q h1 h2 ef g
  unfold dSub at ef
  split at ef
  · rename_i i j q
    cases q; cases ef
    rw [h1.intOf, h2.intOf]
    exact ⟨i, j, rfl, rfl, g.val (.int _)⟩
  · cases ef
instance {i j : Int} : Decidable (CMulW i j) := inferInstanceAs (Decidable (_ < _))
instance {i j : Int} : Decidable (CDivW i j) := inferInstanceAs (Decidable (_ ∧ _))
instance {i j : Int} : Decidable (CPow i j) := inferInstanceAs (Decidable (_ ∧ _))
def dMulS : List D → Option D
  | [.int i, .int j] => if -(2 ^ 64) < j ∧ j < 2 ^ 64 then some (.int (i * j)) else none
  | _ => none
theorem v2_mulS {G : GG} : V2 G (rI CMul fun i j => .int (i * j)) dMulS := by
  intro H x y d e z Q h1 h2 ef g
  unfold dMulS at ef
  split at ef
  · rename_i i j q
    cases q
    split at ef
    · rename_i c
      cases ef
      rw [h1.intOf, h2.intOf]
      exact ⟨i, j, rfl, rfl, .inr c, g.val (.int _)⟩
    · cases ef
  · cases ef
def dDiv : List D → Option D
  | [.int i, .int j] => if CDivW i j then some (.int (i / j)) else none
  | _ => none
theorem v2_div {G : GG} : V2 G (rI CDivW fun i j => .int (i / j)) dDiv := by
  intro H x y d e z Q h1 h2 ef g
  unfold dDiv at ef
  split at ef
  · rename_i i j q
    cases q
    split at ef
    · rename_i c
      cases ef
      rw [h1.intOf, h2.intOf]
      exact ⟨i, j, rfl, rfl, c, g.val (.int _)⟩
    · cases ef
  · cases ef
def dMod : List D → Option D
  | [.int i, .int j] => if 0 < j then some (.int (i % j)) else none
  | _ => none
theorem v2_mod {G : GG} : V2 G (rI (fun _ j => 0 < j) fun i j => .int (i % j)) dMod := by
  intro H x y d e z Q h1 h2 ef g
  unfold dMod at ef
  split at ef
  · rename_i i j q
    cases q
    split at ef
    · rename_i c
      cases ef
      rw [h1.intOf, h2.intOf]
      exact ⟨i, j, rfl, rfl, c, g.val (.int _)⟩
    · cases ef
  · cases ef
def dPow : List D → Option D
  | [.int i, .int j] => if CPow i j then some (.int (i ^ j.toNat)) else none
  | _ => none
theorem v2_pow {G : GG} : V2 G (rI CPow fun i j => .int (i ^ j.toNat)) dPow := by
  intro H x y d e z Q h1 h2 ef g
  unfold dPow at ef
  split at ef
  · rename_i i j q
    cases q
    split at ef
    · rename_i c
      cases ef
      rw [h1.intOf, h2.intOf]
      exact ⟨i, j, rfl, rfl, c, g.val (.int _)⟩
    · cases ef
  · cases ef
def dNeg : List D → Option D
  | [.int i] => some (.int (-i))
  | _ => none
theorem v1_neg {G : GG} : V1 G (rU fun i => .int (-i)) dNeg := by
  intro H x d z Q h1 ef g
  unfold dNeg at ef
  split at ef
  · rename_i i q
    cases q; cases ef
    rw [h1.intOf]
    exact ⟨i, rfl, g.val (.int _)⟩
  · cases ef
section
variable {X : Cx} {G : GG} {W : WX} {pos : Pos} {a b : Expr} {oa ob : Opd}
theorem se_bin {op : Operator} {r : R2} {f : List D → Option D} (ho : OpR X (binaryOp op) r) (hv : V2 G r f) (ha : SO X G W a oa) (hb : SO X G W b ob) : SE X G W (.BinOp a op b pos) (mOp [oa, ob] f) :=
  pe_wk (pe_op ho ha hb) fun σ H Q q => mOp2_rd hv q
theorem se_add (c : CT X G W) (ha : SO X G W a oa) (hb : SO X G W b ob) : SE X G W (.BinOp a .Add b pos) (mOp [oa, ob] dAdd) := se_bin (r := rAddAll G.K) (by rw [c.k]; exact op_addAll) v2_add ha hb
theorem se_sub (ha : SO X G W a oa) (hb : SO X G W b ob) : SE X G W (.BinOp a .Sub b pos) (mOp [oa, ob] dSub) := se_bin op_sub v2_sub ha hb
theorem se_mulS (ha : SO X G W a oa) (hb : SO X G W b ob) : SE X G W (.BinOp a .Mult b pos) (mOp [oa, ob] dMulS) := se_bin op_mul v2_mulS ha hb
theorem se_div (ha : SO X G W a oa) (hb : SO X G W b ob) : SE X G W (.BinOp a .FloorDiv b pos) (mOp [oa, ob] dDiv) := se_bin op_fdivW v2_div ha hb
theorem se_mod (ha : SO X G W a oa) (hb : SO X G W b ob) : SE X G W (.BinOp a .Mod b pos) (mOp [oa, ob] dMod) := se_bin op_mod v2_mod ha hb
theorem se_pow (ha : SO X G W a oa) (hb : SO X G W b ob) : SE X G W (.BinOp a .Pow b pos) (mOp [oa, ob] dPow) := se_bin op_pow v2_pow ha hb
theorem se_neg (ha : SO X G W a oa) : SE X G W (.UnaryOp .USub a pos) (mOp [oa] dNeg) := pe_wk (pe_un un_neg ha) fun σ H Q q => mOp1_rd v1_neg q
end
def dLt : List D → Option D
  | [.int i, .int j] => some (.bl (decide (i < j)))
  | [.str a, .str b] => some (.bl (decide (a.cps.toList < b.cps.toList)))
  | _ => none
theorem v2_lt {G : GG} : V2 G (fun x y H Q => rI0 (fun i j => .bl (decide (i < j))) x y H Q ∨ ∃ i j, x = .str i ∧ y = .str j ∧ Q (.bl (decide (i.cps.toList < j.cps.toList))) H) dLt := by
  intro H x y d e z Q h1 h2 ef g
  unfold dLt at ef
  split at ef
  · rename_i i j q
    cases q; cases ef
    rw [h1.intOf, h2.intOf]
    exact .inl ⟨i, j, rfl, rfl, g.val (.bl _)⟩
  · rename_i i j q
    cases q; cases ef
    rw [h1.strOf, h2.strOf]
    exact .inr ⟨i, j, rfl, rfl, g.val (.bl _)⟩
  · cases ef
def dIntB (p : Int → Int → Bool) : List D → Option D
  | [.int i, .int j] => some (.bl (p i j))
  | _ => none
theorem v2_intB {G : GG} {p : Int → Int → Bool} : V2 G (rI0 fun i j => .bl (p i j)) (dIntB p) := by
  intro H x y d e z Q h1 h2 ef g
  unfold dIntB at ef
  split at ef
  · rename_i i j q
    cases q; cases ef
    rw [h1.intOf, h2.intOf]
    exact ⟨i, j, rfl, rfl, g.val (.bl _)⟩
  · cases ef
def dLe : List D → Option D := dIntB fun i j => decide (i ≤ j)
def dGt : List D → Option D := dIntB fun i j => decide (j < i)
def dGe : List D → Option D := dIntB fun i j => decide (j ≤ i)
def dEqB (a b : D) : Option Bool := match a.pd, b.pd with
  | some p, some q => if SeqAt.shaped p = true ∧ SeqAt.shaped q = true then some (PyData.eqv p q) else none
  | _, _ => none
def dEq : List D → Option D
  | [a, b] => (dEqB a b).map .bl
  | _ => none
def dNe : List D → Option D
  | [a, b] => (dEqB a b).map fun k => .bl (!k)
  | _ => none
theorem eqB_of {a b : D} {k : Bool} (h : dEqB a b = some k) : ∃ p q, a.pd = some p ∧ b.pd = some q ∧ SeqAt.shaped p = true ∧ SeqAt.shaped q = true ∧ k = PyData.eqv p q := by
  unfold dEqB at h
  split at h
  · rename_i p q e1 e2
    split at h
    · rename_i c
      exact ⟨p, q, e1, e2, c.1, c.2, (Option.some.inj h).symm⟩
    · cases h
  · cases h
theorem v2_eq {G : GG} : V2 G (rEqD G.K) dEq := by
  intro H x y d e z Q h1 h2 ef g
  have ef : (dEqB d e).map D.bl = some z := ef
  rw [Option.map_eq_some_iff] at ef
  obtain ⟨k, c, rfl⟩ := ef
  obtain ⟨p, q, e1, e2, s1, s2, rfl⟩ := eqB_of c
  exact ⟨p, q, h1.dp e1, h2.dp e2, s1, s2, g.val (.bl _)⟩
theorem v2_ne {G : GG} : V2 G (rNeD G.K) dNe := by
  intro H x y d e z Q h1 h2 ef g
  have ef : (dEqB d e).map (fun k => D.bl (!k)) = some z := ef
  rw [Option.map_eq_some_iff] at ef
  obtain ⟨k, c, rfl⟩ := ef
  obtain ⟨p, q, e1, e2, s1, s2, rfl⟩ := eqB_of c
  exact ⟨p, q, h1.dp e1, h2.dp e2, s1, s2, g.val (.bl _)⟩
def D.isNon : D → Bool
  | .non => true
  | _ => false
theorem RS.isNon {G : GG} {H : Hp} {d : D} {v : V} (h : RS G H d v) : decide (v = .non) = d.isNon := by
  cases d with
  | lst ds => obtain ⟨a, vs, rfl, _⟩ := h; rfl
  | dic ks ds => obtain ⟨a, vs, rfl, _⟩ := h; rfl
  | dct ks ds => obtain ⟨a, vs, rfl, _⟩ := h; rfl
  | dcn ks ds => obtain ⟨a, vs, rfl, _⟩ := h; rfl
  | dco ks ds => obtain ⟨a, vs, rfl, _⟩ := h; rfl
  | _ => cases (RS.rv h rfl) <;> rfl
def dIsN : List D → Option D
  | [a, .non] => some (.bl a.isNon)
  | _ => none
def dNotN : List D → Option D
  | [a, .non] => some (.bl (!a.isNon))
  | _ => none
theorem v2_isN {G : GG} : V2 G (fun x y H Q => y = .non ∧ Q (.bl (decide (x = .non))) H) dIsN := by
  intro H x y d e z Q h1 h2 ef g
  unfold dIsN at ef
  split at ef
  · rename_i a q
    cases q; cases ef
    rw [h1.isNon]
    exact ⟨h2.nonOf, g.val (.bl _)⟩
  · cases ef
end TV
namespace TV
open PySem PySem.Spec PyProof.Rows L2
def D.fl : D → Option V
  | .non => some .non
  | .bl b => some (.bl b)
  | .int i => some (.int i)
  | .str x => some (.str x)
  | _ => none
def fls : List D → Option (List V)
  | [] => some []
  | d :: ds => match d.fl, fls ds with
    | some v, some vs => some (v :: vs)
    | _, _ => none
theorem RV.fl {G : GG} {H : Hp} {d : D} {v w : V} (h : RV G H d v) (e : d.fl = some w) : v = w ∧ flatV w = true := by
  cases h <;> first | (cases e; exact ⟨rfl, rfl⟩) | cases e
theorem RVs.fls {G : GG} {H : Hp} : ∀ {ds : List D} {vs ws : List V}, RVs G H ds vs → TV.fls ds = some ws → vs = ws ∧ ws.all flatV = true
  | _, _, _, .nil, e => by cases e; exact ⟨rfl, rfl⟩
  | _, _, _, .cons h r, e => by
    unfold TV.fls at e
    split at e
    · rename_i v vs e1 e2
      cases e
      obtain ⟨h1, h2⟩ := h.fl e1
      obtain ⟨r1, r2⟩ := r.fls e2
      rw [h1, r1]
      exact ⟨rfl, by rw [List.all_cons, h2, r2]; rfl⟩
    · cases e
def dItems : D → Option (List D)
  | .tup xs => some xs
  | .lst xs => some xs
  | .frl xs => some xs
  | _ => none
theorem RS.items {G : GG} {H : Hp} {d : D} {v : V} {ds : List D} (h : RS G H d v) (e : dItems d = some ds) : ∃ p vs, v = .ref p ∧ (SqL G.K H p vs ∨ SqT G.K H p vs) ∧ RVs G H ds vs := by
  unfold dItems at e
  split at e
  · cases e
    obtain ⟨a, vs, rfl, s, r⟩ := h.tupOf
    exact ⟨a, vs, rfl, .inr s.sqt, r⟩
  · cases e
    obtain ⟨a, vs, rfl, s, r⟩ := h.lstOf
    exact ⟨a, vs, rfl, .inl (SqL.of s), r⟩
  · cases e
    obtain ⟨a, vs, rfl, s, r⟩ := h.frlOf
    exact ⟨a, vs, rfl, .inl s, r⟩
  · cases e
def dInF (neg : Bool) : List D → Option D
  | [x, s] => match x.fl, (dItems s).bind fls with
    | some v, some vs => some (.bl (if neg then !inV v vs else inV v vs))
    | _, _ => none
  | _ => none
theorem v2_in {G : GG} {neg : Bool} : V2 G (rIn G.K neg) (dInF neg) := by
  intro H x y d e z Q h1 h2 ef g
  have ef : (match d.fl, (dItems e).bind fls with
    | some v, some vs => some (D.bl (if neg then !inV v vs else inV v vs))
    | _, _ => none) = some z := ef
  split at ef
  · rename_i v vs e1 e2
    cases ef
    cases e3 : dItems e with
    | none => rw [e3] at e2; cases e2
    | some ds =>
      rw [e3] at e2
      obtain ⟨p, ws, rfl, s, r⟩ := h2.items e3
      obtain ⟨q1, q2⟩ := r.fls e2
      have po : d.own = false := by cases d <;> first | rfl | cases e1
      obtain ⟨q3, q4⟩ := (h1.rv po).fl e1
      subst q1 q3
      exact ⟨p, ws, rfl, s, q4, q2, g.val (.bl _)⟩
  · cases ef
section
variable {X : Cx} {G : GG} {W : WX} {pos : Pos} {a b c' : Expr} {oa ob oc : Opd}
theorem se_cmp {op : CmpOp} {r : R2} {f : List D → Option D} (ho : OpR X (compareOp op) r) (hv : V2 G r f) (ha : SO X G W a oa) (hb : SO X G W b ob) (hm : behindInMarks op b = false) : SE X G W (.Compare a [op] [b] pos) (mOp [oa, ob] f) :=
  pe_wk (pe_cmpR ho ha hb hm) fun σ H Q q => mOp2_rd hv q
def toB : D × Env → R (Bool × Env)
  | (.bl k, ρ) => .ok (k, ρ)
  | _ => .stuck
def mB (m : ME) : MT := fun ρ => (m ρ).bind toB
theorem rdB {m : ME} {σ : L2.St} {H : Hp} {Q : Bool → Hp → Prop} (q : rdT G W (mB m) σ H Q) : rdE G W m σ H fun x H1 => ∃ k, x = .bl k ∧ Q k H1 := by
  obtain ⟨ρ, re, q⟩ := q
  refine ⟨ρ, re, ?_⟩
  have q : postT G W ρ σ H Q ((m ρ).bind toB) := q
  cases e : m ρ with
  | ok p =>
    rw [e] at q
    obtain ⟨d, ρ'⟩ := p
    intro v H' re' fr rs
    cases d with
    | bl k => exact ⟨_, rs.1.blOf, q H' re' fr⟩
    | _ => exact q.elim
  | exc c w ρ' => rw [e] at q; exact q
  | stuck => rw [e] at q; exact q
theorem st_cmp {op : CmpOp} {r : R2} {f : List D → Option D} (ho : OpR X (compareOp op) r) (hv : V2 G r f) (ha : SO X G W a oa) (hb : SO X G W b ob) (hm : behindInMarks op b = false) : ST X G W (.Compare a [op] [b] pos) (mB (mOp [oa, ob] f)) :=
  pt_wk (pt_cmpR ho ha hb hm) fun σ H Q q => mOp2_rd hv (rdB q)
theorem op_ltAll : OpR X (compareOp .Lt) (fun x y H Q => rI0 (fun i j => .bl (decide (i < j))) x y H Q ∨ ∃ i j, x = .str i ∧ y = .str j ∧ Q (.bl (decide (i.cps.toList < j.cps.toList))) H) := op_lt.or op_lt_str
theorem st_lt (ha : SO X G W a oa) (hb : SO X G W b ob) : ST X G W (.Compare a [.Lt] [b] pos) (mB (mOp [oa, ob] dLt)) := st_cmp op_ltAll v2_lt ha hb (nomark _)
theorem st_gt (ha : SO X G W a oa) (hb : SO X G W b ob) : ST X G W (.Compare a [.Gt] [b] pos) (mB (mOp [oa, ob] dGt)) := st_cmp op_gt v2_intB ha hb (nomark _)
theorem st_ge (ha : SO X G W a oa) (hb : SO X G W b ob) : ST X G W (.Compare a [.GtE] [b] pos) (mB (mOp [oa, ob] dGe)) := st_cmp op_ge v2_intB ha hb (nomark _)
theorem st_eq (c : CT X G W) (ha : SO X G W a oa) (hb : SO X G W b ob) : ST X G W (.Compare a [.Eq] [b] pos) (mB (mOp [oa, ob] dEq)) := st_cmp (by rw [c.k]; exact op_eqD c.un) v2_eq ha hb (nomark _)
theorem st_ne (c : CT X G W) (ha : SO X G W a oa) (hb : SO X G W b ob) : ST X G W (.Compare a [.NotEq] [b] pos) (mB (mOp [oa, ob] dNe)) := st_cmp (by rw [c.k]; exact op_neD c.un) v2_ne ha hb (nomark _)
theorem st_isN (ha : SO X G W a oa) (hb : SO X G W b ob) : ST X G W (.Compare a [.Is] [b] pos) (mB (mOp [oa, ob] dIsN)) := st_cmp op_isN v2_isN ha hb (nomark _)
theorem se_gt (ha : SO X G W a oa) (hb : SO X G W b ob) : SE X G W (.Compare a [.Gt] [b] pos) (mOp [oa, ob] dGt) := se_cmp op_gt v2_intB ha hb (nomark _)
theorem se_ge (ha : SO X G W a oa) (hb : SO X G W b ob) : SE X G W (.Compare a [.GtE] [b] pos) (mOp [oa, ob] dGe) := se_cmp op_ge v2_intB ha hb (nomark _)
theorem se_eq (c : CT X G W) (ha : SO X G W a oa) (hb : SO X G W b ob) : SE X G W (.Compare a [.Eq] [b] pos) (mOp [oa, ob] dEq) := se_cmp (by rw [c.k]; exact op_eqD c.un) v2_eq ha hb (nomark _)
theorem se_isN (ha : SO X G W a oa) (hb : SO X G W b ob) : SE X G W (.Compare a [.Is] [b] pos) (mOp [oa, ob] dIsN) := se_cmp op_isN v2_isN ha hb (nomark _)
theorem rdT.mono {t : MT} {σ : L2.St} {H : Hp} {Q Q' : Bool → Hp → Prop} (q : rdT G W t σ H Q) (f : ∀ b H1, Q b H1 → Q' b H1) : rdT G W t σ H Q' := by
  obtain ⟨ρ, re, q⟩ := q
  refine ⟨ρ, re, ?_⟩
  cases e : t ρ with
  | ok p => rw [e] at q; exact fun H' r1 r2 => f _ _ (q H' r1 r2)
  | exc c w ρ' => rw [e] at q; exact q
  | stuck => rw [e] at q; exact q
def tThen {α : Type} (t : MT) (k : Bool → Env → R α) : Env → R α := fun ρ => (t ρ).bind fun p => k p.1 p.2
theorem rdTT {t : MT} {k : Bool → MT} {σ : L2.St} {H : Hp} {Q : Bool → Hp → Prop} (q : rdT G W (tThen t k) σ H Q) : rdT G W t σ H fun b H1 => rdT G W (k b) σ H1 Q := by
  obtain ⟨ρ, re, q⟩ := q
  refine ⟨ρ, re, ?_⟩
  have q : postT G W ρ σ H Q ((t ρ).bind fun p => k p.1 p.2) := q
  cases e : t ρ with
  | ok p =>
    obtain ⟨b, ρ1⟩ := p
    rw [e] at q
    exact fun H1 re1 fr => ⟨ρ1, re1, postT.ahead (r := k b ρ1) q fr⟩
  | exc c w ρ' => rw [e] at q; exact q
  | stuck => rw [e] at q; exact q
theorem rdTE {t : MT} {k : Bool → ME} {σ : L2.St} {H : Hp} {Q : VK} (q : rdE G W (tThen t k) σ H Q) : rdT G W t σ H fun b H1 => rdE G W (k b) σ H1 Q := by
  obtain ⟨ρ, re, q⟩ := q
  refine ⟨ρ, re, ?_⟩
  have q : postE G W ρ σ H Q ((t ρ).bind fun p => k p.1 p.2) := q
  cases e : t ρ with
  | ok p =>
    obtain ⟨b, ρ1⟩ := p
    rw [e] at q
    exact fun H1 re1 fr => ⟨ρ1, re1, postE.ahead (r := k b ρ1) q fr⟩
  | exc c w ρ' => rw [e] at q; exact q
  | stuck => rw [e] at q; exact q
theorem rdTS {t : MT} {k : Bool → MS} {A : List Nat} {σ : L2.St} {H : Hp} {E : Ends} (q : rdS G W A (tThen t k) E σ H) : rdT G W t σ H fun b H1 => rdS G W A (k b) E σ H1 := by
  obtain ⟨ρ, re, q⟩ := q
  refine ⟨ρ, re, ?_⟩
  have q : postS G W A ρ σ H E ((t ρ).bind fun p => k p.1 p.2) := q
  cases e : t ρ with
  | ok p =>
    obtain ⟨b, ρ1⟩ := p
    rw [e] at q
    exact fun H1 re1 fr => ⟨ρ1, re1, postS.ahead (A := []) (B := A) (r := k b ρ1) q fr SameBut.refl⟩
  | exc c w ρ' => rw [e] at q; exact fun σ' H' dd fs v r1 r2 r3 => q σ' H' dd fs v r1 r2 (fun i _ => r3 i (fun h => nomatch h))
  | stuck => rw [e] at q; exact q
theorem rdT_ok {b : Bool} {σ : L2.St} {H : Hp} {Q : Bool → Hp → Prop} (q : rdT G W (fun ρ => .ok (b, ρ)) σ H Q) : Q b H := by
  obtain ⟨ρ, re, q⟩ := q
  exact q H re Fr.refl
def mYes : MT := fun ρ => .ok (true, ρ)
def mNo : MT := fun ρ => .ok (false, ρ)
def kAnd (u : MT) : Bool → MT
  | true => u
  | false => mNo
def kOr (u : MT) : Bool → MT
  | true => mYes
  | false => u
def kNot : Bool → MT
  | true => mNo
  | false => mYes
abbrev mAnd (t u : MT) : MT := tThen t (kAnd u)
abbrev mOr (t u : MT) : MT := tThen t (kOr u)
abbrev mNot (t : MT) : MT := tThen t kNot
abbrev SW (X : Cx) (G : GG) (W : WX) (e : Expr) (m : MT) : Prop := PW X e (rdT G W m)
theorem pw_wk {e : Expr} {t t' : TT} (h : PW X e t) (f : ∀ σ H Q, t' σ H Q → t σ H Q) : PW X e t' := ⟨fun w pins s σ H Q I q => h.run w pins s σ H Q I (f σ H Q q)⟩
theorem sw_and1 {t : MT} (h : ST X G W a t) : SW X G W (.BoolOp .And [a] pos) t := pw_and1 h
theorem sw_or1 {t : MT} (h : ST X G W a t) : SW X G W (.BoolOp .Or [a] pos) t := pw_or1 h
theorem sw_and {t u : MT} {rest : List Expr} (h : ST X G W a t) (k : SW X G W (.BoolOp .And (b :: rest) pos) u) : SW X G W (.BoolOp .And (a :: b :: rest) pos) (mAnd t u) :=
  pw_wk (pw_and h k) fun σ H Q q => (rdTT q).mono fun b H1 z => by
    cases b with
    | true => exact z
    | false => exact rdT_ok z
theorem sw_or {t u : MT} {rest : List Expr} (h : ST X G W a t) (k : SW X G W (.BoolOp .Or (b :: rest) pos) u) : SW X G W (.BoolOp .Or (a :: b :: rest) pos) (mOr t u) :=
  pw_wk (pw_or h k) fun σ H Q q => (rdTT q).mono fun b H1 z => by
    cases b with
    | true => exact rdT_ok z
    | false => exact z
theorem st_bool {e : Expr} {t : MT} (h : SW X G W e t) : ST X G W e t := PW.pt h
theorem st_not {t : MT} (h : ST X G W a t) : ST X G W (.UnaryOp .Not a pos) (mNot t) :=
  pt_wk (pt_not h) fun σ H Q q => (rdTT q).mono fun b H1 z => by
    cases b with
    | true => exact rdT_ok z
    | false => exact rdT_ok z
def kV (b : Bool) : ME := mC (.bl b)
def kIf (a b : ME) : Bool → ME
  | true => a
  | false => b
abbrev mIf (t : MT) (a b : ME) : ME := tThen t (kIf a b)
theorem se_ifExp {t : MT} {m n : ME} (h : ST X G W c' t) (ha : SE X G W a m) (hb : SE X G W b n) : SE X G W (.IfExp c' a b pos) (mIf t m n) :=
  pe_wk (pe_ifExp h ha hb) fun σ H Q q => (rdTE q).mono fun b H1 z => by
    cases b with
    | true => exact z
    | false => exact z
def kAndV (u : ME) : Bool → ME
  | true => u
  | false => mC (.bl false)
def kOrV (u : ME) : Bool → ME
  | true => mC (.bl true)
  | false => u
def kNotV : Bool → ME
  | true => mC (.bl false)
  | false => mC (.bl true)
abbrev mAndV (m u : ME) : ME := tThen (mB m) (kAndV u)
abbrev mOrV (m u : ME) : ME := tThen (mB m) (kOrV u)
theorem se_one {op} {m : ME} (h : SE X G W a m) : SE X G W (.BoolOp op [a] pos) m := pe_one h
theorem se_and {m u : ME} {rest : List Expr} (h : SE X G W a m) (k : SE X G W (.BoolOp .And (b :: rest) pos) u) : SE X G W (.BoolOp .And (a :: b :: rest) pos) (mAndV m u) :=
  pe_wk (pe_and h k) fun σ H Q q => (rdB (rdTE q)).mono fun v H1 ⟨k, e, z⟩ => by
    refine ⟨k, e, ?_⟩
    cases k with
    | true => exact z
    | false => exact rdC (fun _ => .bl false) z
theorem se_or {m u : ME} {rest : List Expr} (h : SE X G W a m) (k : SE X G W (.BoolOp .Or (b :: rest) pos) u) : SE X G W (.BoolOp .Or (a :: b :: rest) pos) (mOrV m u) :=
  pe_wk (pe_or h k) fun σ H Q q => (rdB (rdTE q)).mono fun v H1 ⟨k, e, z⟩ => by
    refine ⟨k, e, ?_⟩
    cases k with
    | true => exact rdC (fun _ => .bl true) z
    | false => exact z
end
end TV
namespace TV
open PySem PySem.Spec PyProof.Rows L2
def kChain (p q : Int → Int → Bool) (oa ob oc : Opd) : List (Option D) × Env → R (D × Env) := fun x => match rds [oa, ob] x.1 x.2 with
  | some [.int i, .int j] => if p i j = true then mOp [oc] (fun ds => dIntB q (.int j :: ds)) x.2 else .ok (.bl false, x.2)
  | _ => .stuck
def mChain (p q : Int → Int → Bool) (oa ob oc : Opd) : ME := fun ρ => (ev [oa, ob] ρ).bind (kChain p q oa ob oc)
theorem rdChain {G : GG} {W : WX} {p q : Int → Int → Bool} {oa ob oc : Opd} {σ : L2.St} {H : Hp} {Q : VK} (h : rdE G W (mChain p q oa ob oc) σ H Q) :
    tChain (rI0 fun i j => .bl (p i j)) (rI0 fun i j => .bl (q i j)) (tO G W oa) (tO G W ob) (tO G W oc) σ H Q := by
  obtain ⟨ρ, re, h⟩ := h
  have k := opds_run (W := W) (os := [oa, ob]) (Q := fun vs H1 => match vs with
    | [x, y] => rI0 (fun i j => V.bl (p i j)) x y H1 fun z H3 => ∃ k, z = .bl k ∧ (if k = true then tO G W oc σ H3 fun w' H4 => rI0 (fun i j => V.bl (q i j)) y w' H4 Q else Q (.bl false) H3)
    | _ => False) re ?_
  · exact k
  · have h : postE G W ρ σ H Q ((ev [oa, ob] ρ).bind (kChain p q oa ob oc)) := h
    cases e : ev [oa, ob] ρ with
    | exc c w ρ' => rw [e] at h; exact h
    | stuck => rw [e] at h; exact h
    | ok x =>
      rw [e] at h
      obtain ⟨xs, ρ1⟩ := x
      intro vs H1 re1 fr hq
      have h : postE G W ρ σ H Q (match rds [oa, ob] xs ρ1 with
        | some [.int i, .int j] => if p i j = true then mOp [oc] (fun ds => dIntB q (.int j :: ds)) ρ1 else .ok (.bl false, ρ1)
        | _ => .stuck) := h
      split at h
      · rename_i i j e2
        have s := hq _ e2
        cases s with
        | cons s1 s =>
          cases s with
          | cons s2 s =>
            cases s
            rw [s1.intOf, s2.intOf]
            refine ⟨i, j, rfl, rfl, p i j, rfl, ?_⟩
            cases c : p i j with
            | true =>
              rw [c, if_pos rfl] at h
              rw [if_pos rfl]
              have h2 : rdE G W (mOp [oc] (fun ds => dIntB q (.int j :: ds))) σ H1 Q := ⟨ρ1, re1, h.ahead fr⟩
              exact mOp1_rd (r := fun w' H4 Q => rI0 (fun i j => V.bl (q i j)) (.int j) w' H4 Q) (fun H x d z Q r1 ef g => (v2_intB (G := G) (p := q)) H (.int j) x (.int j) d z Q (RV.rs (.int j)) r1 ef g) h2
            | false =>
              rw [c, if_neg Bool.false_ne_true] at h
              rw [if_neg Bool.false_ne_true]
              exact h _ H1 re1 fr (Res.of_rv (.bl false))
      · exact h.elim
section
variable {X : Cx} {G : GG} {W : WX} {pos : Pos} {a b c' : Expr} {oa ob oc : Opd}
theorem st_chain {op op' : CmpOp} {p q : Int → Int → Bool} (ho : OpR X (compareOp op) (rI0 fun i j => .bl (p i j))) (ho' : OpR X (compareOp op') (rI0 fun i j => .bl (q i j))) (ha : SO X G W a oa) (hb : SO X G W b ob) (hc : SO X G W c' oc)
    (hm : lastMarks [op, op'] [b, c'] = false := by with_unfolding_all rfl) : ST X G W (.Compare a [op, op'] [b, c'] pos) (mB (mChain p q oa ob oc)) := pt_wk (pt_chain ho ho' ha hb hc hm) fun σ H Q h => rdChain (rdB h)
end
structure Flds (G : GG) (f : Str) : Prop where
  cls : ∀ c, f ∈ G.nm c → Cls G.K (G.cl c) ∧ NoAttr G.K (G.cl c) f
section
variable {X : Cx} {G : GG} {W : WX} {pos : Pos} {e a b : Expr} {o oa ob : Opd}
def dIx : List D → Option D
  | [s, .int i] => match s with
    | .str z => if z.length ≤ sizeLine then (atI z.cps.toList i).map fun c => .str ⟨#[c]⟩ else none
    | _ => (dItems s).bind fun xs => atI xs i
  | _ => none
theorem RVs.atI {H : Hp} {ds : List D} {vs : List V} {i : Int} {d : D} (r : RVs G H ds vs) (e : L2.atI ds i = some d) : ∃ v, L2.atI vs i = some v ∧ RV G H d v := by
  unfold L2.atI at e ⊢
  rw [← r.length]
  cases z : ixN ds.length i with
  | none => rw [z] at e; cases e
  | some j => rw [z] at e; exact r.get e
theorem v2_ix : V2 G (rIx G.K) dIx := by
  intro H x y d e z Q h1 h2 ef g
  unfold dIx at ef
  split at ef
  · rename_i s i q
    cases q
    rw [h2.intOf]
    split at ef
    · rename_i z'
      split at ef
      · rename_i l
        rw [h1.strOf]
        rw [Option.map_eq_some_iff] at ef
        obtain ⟨c, e1, rfl⟩ := ef
        exact .inr (.inr ⟨_, i, c, rfl, rfl, l, e1, g.val (.str _)⟩)
      · cases ef
    · rw [Option.bind_eq_some_iff] at ef
      obtain ⟨xs, e1, e2⟩ := ef
      obtain ⟨p, vs, rfl, sq, r⟩ := h1.items e1
      obtain ⟨v, e3, rv⟩ := r.atI e2
      rcases sq with sq | sq
      · exact .inl ⟨p, vs, i, v, rfl, rfl, sq, e3, g.val rv⟩
      · exact .inr (.inl ⟨p, vs, i, v, rfl, rfl, sq, e3, g.val rv⟩)
  · cases ef
theorem se_ix (c : CT X G W) (ha : SO X G W a oa) (hb : SO X G W b ob) (hs : PlainIx b := by exact fun _ _ => rfl) : SE X G W (.Subscript a b pos) (mOp [oa, ob] dIx) :=
  pe_wk (pe_ix (r := rIx G.K) (by rw [c.k]; exact ix_seq) ha hb hs) fun σ H Q q => mOp2_rd v2_ix q
def dTup (ds : List D) : Option D := if ds.all (fun d => !d.own) = true ∧ ds.length ≤ sizeLine then some (.tup ds) else none
def dLst (ds : List D) : Option D := if ds.all (fun d => !d.own) = true ∧ ds.length ≤ sizeLine then some (.lst ds) else none
theorem RSs.rvs {H : Hp} : ∀ {ds : List D} {vs : List V}, RSs G H ds vs → ds.all (fun d => !d.own) = true → RVs G H ds vs
  | _, _, .nil, _ => .nil
  | _, _, .cons h r, e => by
    rw [List.all_cons, Bool.and_eq_true] at e
    exact .cons (h.rv (by simpa using e.1)) (r.rvs e.2)
theorem vn_tup {n : Nat} : VN G n (fun xs H1 Q => xs.length ≤ sizeLine ∧ NewT xs H1 Q) dTup := by
  intro H vs ds z Q _ rs ef g
  unfold dTup at ef
  split at ef
  · rename_i c
    cases ef
    have r := rs.rvs c.1
    exact ⟨by rw [← r.length]; exact c.2, g.tup r⟩
  · cases ef
theorem vn_lst {n : Nat} : VN G n (fun xs H1 Q => xs.length ≤ sizeLine ∧ ∀ p, H1 p = none → Q (.ref p) (upd H1 p (.lst xs))) dLst := by
  intro H vs ds z Q _ rs ef g
  unfold dLst at ef
  split at ef
  · rename_i c
    cases ef
    have r := rs.rvs c.1
    exact ⟨by rw [← r.length]; exact c.2, g.lst r⟩
  · cases ef
theorem se_tup {es : List Expr} {os : List Opd} {x1} (h : SOs X G W es os) : SE X G W (.Tuple es x1 pos) (mOp os dTup) := pe_wk (pe_tupF h) fun σ H Q q => mOp_rd vn_tup q
theorem se_lst {es : List Expr} {os : List Opd} (h : SOs X G W es os) : SE X G W (.List es pos) (mOp os dLst) := pe_wk (pe_lst h) fun σ H Q q => mOp_rd vn_lst q
def D.tru : D → Option Bool
  | .non => some false
  | .bl b => some b
  | .int i => some (i != 0)
  | .tup xs => some (!xs.isEmpty)
  | .lst xs => some (!xs.isEmpty)
  | .frl xs => some (!xs.isEmpty)
  | .dic ks _ => some (!ks.isEmpty)
  | _ => none
theorem isEmpty_len {α β : Type} {xs : List α} {ys : List β} (h : xs.length = ys.length) : xs.isEmpty = ys.isEmpty := by
  cases xs <;> cases ys <;> simp at h ⊢
theorem RS.tru {H : Hp} {d : D} {v : V} {k : Bool} (h : RS G H d v) (e : d.tru = some k) : TruV G.K v H k := by
  cases d with
  | non => rw [h.nonOf]; cases e; rfl
  | bl b => rw [h.blOf]; cases e; rfl
  | int i => rw [h.intOf]; cases e; rfl
  | str x => cases e
  | ins c fs => cases e
  | frd ks ds => cases e
  | frt ks ds => cases e
  | fnc c => cases e
  | dct ks ds => cases e
  | dcn ks ds => cases e
  | dco ks ds => cases e
  | tup xs =>
    obtain ⟨a, vs, rfl, s, r⟩ := h.tupOf
    cases e
    exact .inr (.inl ⟨vs, s.sqt, by rw [isEmpty_len r.length]⟩)
  | lst xs =>
    obtain ⟨a, vs, rfl, s, r⟩ := h.lstOf
    cases e
    exact .inl ⟨vs, SqL.of s, by rw [isEmpty_len r.length]⟩
  | frl xs =>
    obtain ⟨a, vs, rfl, s, r⟩ := h.frlOf
    cases e
    exact .inl ⟨vs, s, by rw [isEmpty_len r.length]⟩
  | dic ks ds =>
    obtain ⟨a, vs, rfl, s, l, r⟩ := h
    cases e
    refine .inr (.inr ⟨_, s, ?_⟩)
    have e1 : (ks.zip vs).length = ks.length := by
      have := r.length
      rw [List.length_zip]
      omega
    rw [isEmpty_len e1]
def dTru : List D → Option D
  | [d] => d.tru.map .bl
  | _ => none
theorem st_truth (c : CT X G W) (h : SO X G W a oa) (he : ∀ whole, isTrue a X.env whole = (do let v ← whole; standAt a.pos; holding [v] (truthy v)) := by intro _; rfl) : ST X G W a (mB (mOp [oa] dTru)) :=
  pt_wk (pt_truth h he) fun σ H Q q => by
    have := mOp1_rd (r := fun x H1 Q => ∃ k, TruV G.K x H1 k ∧ Q (.bl k) H1) (fun H x d z Q r ef g => by
      have ef : d.tru.map D.bl = some z := ef
      rw [Option.map_eq_some_iff] at ef
      obtain ⟨k, e, rfl⟩ := ef
      exact ⟨k, r.tru e, g.val (.bl k)⟩) (rdB q)
    rw [← c.k]
    cases oa with
    | var i p =>
      obtain ⟨v, e1, m, k, t, k', e2, z⟩ := this
      cases e2
      exact ⟨v, e1, m, k, t, z⟩
    | tmp m p =>
      exact rdE.mono this fun v H1 ⟨mm, k, t, k', e2, z⟩ => by
        cases e2
        exact ⟨mm, k, t, z⟩
end
end TV
namespace TV
open PySem PySem.Spec PyProof.Rows L2
section
variable {X : Cx} {G : GG} {W : WX} {pos p : Pos} {x : Str} {id T : String} {e : Expr} {es : List Expr} {os : List Opd} {r : List V → Hp → VK → Prop} {f : List D → Option D}
theorem se_callB (hc : CallR X (.builtin id) r) (hv : VN G os.length r f) (hg : Gl X x) (hm : X.mg x = none) (hb : bootBuiltins x = some (.builtin id)) (ha : SOs X G W (e :: es) os) (hn : x ≠ "__name__" := by decide) (hdb : (x == ("__debug__" : Str)) = false := by decide)
    (he : starEach (e :: es) X.env = (false, eval e X.env) :: starEach es X.env := by rfl) (hpl : (backTo pos (starEach es X.env)).any (·.1) = false := by rfl) : SE X G W (.Call (.Name x p) (e :: es) [] pos) (mOp os f) :=
  pe_wk (pe_callB hc hg hm hb ha hn hdb he hpl) fun σ H Q q => mOp_rd hv q
theorem se_callT (hc : CallR X (.type T) r) (hv : VN G os.length r f) (hg : Gl X x) (hm : X.mg x = none) (hb : bootBuiltins x = some (.type T)) (ha : SOs X G W (e :: es) os) (hn : x ≠ "__name__" := by decide) (hdb : (x == ("__debug__" : Str)) = false := by decide)
    (he : starEach (e :: es) X.env = (false, eval e X.env) :: starEach es X.env := by rfl) (hpl : (backTo pos (starEach es X.env)).any (·.1) = false := by rfl) : SE X G W (.Call (.Name x p) (e :: es) [] pos) (mOp os f) :=
  pe_wk (pe_callTy hc hg hm hb ha hn hdb he hpl) fun σ H Q q => mOp_rd hv q
end
theorem VN.one {G : GG} {r : List V → Hp → VK → Prop} {f : List D → Option D} (h : ∀ (H : Hp) (x : V) (d z : D) (Q : VK), RS G H d x → f [d] = some z → Gives G H z Q → r [x] H Q) : VN G 1 r f := fun H vs ds z Q ln rs e g => by
  cases rs with
  | nil => cases ln
  | cons h1 rs =>
    cases rs with
    | nil => exact h H _ _ z Q h1 e g
    | cons _ _ => cases ln
theorem VN.two {G : GG} {r : List V → Hp → VK → Prop} {f : List D → Option D} (h : ∀ (H : Hp) (x y : V) (d e z : D) (Q : VK), RS G H d x → RS G H e y → f [d, e] = some z → Gives G H z Q → r [x, y] H Q) : VN G 2 r f := fun H vs ds z Q ln rs e g => by
  cases rs with
  | nil => cases ln
  | cons h1 rs =>
    cases rs with
    | nil => cases ln
    | cons h2 rs =>
      cases rs with
      | nil => exact h H _ _ _ _ z Q h1 h2 e g
      | cons _ _ => cases ln
def dLen : List D → Option D
  | [.str z] => if z.length ≤ sizeLine then some (.int z.length) else none
  | [.dic ks _] => some (.int ks.length)
  | [s] => (dItems s).map fun xs => .int xs.length
  | _ => none
abbrev rLen (K : PySem.W.Frag) : List V → Hp → VK → Prop := fun xs H Q => (∃ p ys, xs = [.ref p] ∧ (SqL K H p ys ∨ SqT K H p ys) ∧ Q (.int ys.length) H) ∨ (∃ z, xs = [.str z] ∧ z.length ≤ sizeLine ∧ Q (.int z.length) H) ∨
  (∃ a kvs, xs = [V.ref a] ∧ H a = some (.dK kvs) ∧ Q (.int kvs.length) H)
theorem call_lenAll {X : Cx} : CallR X (.builtin "len") (rLen X.K) := call_len_seq.or (call_len_str.or call_lenD)
theorem vn_len {G : GG} : VN G 1 (rLen G.K) dLen := VN.one fun H x d z Q h ef g => by
  unfold dLen at ef
  split at ef
  · rename_i y q
    cases q
    split at ef
    · rename_i l
      cases ef
      rw [h.strOf]
      exact .inr (.inl ⟨y, rfl, l, g.val (.int _)⟩)
    · cases ef
  · rename_i ks ds q
    cases q
    cases ef
    obtain ⟨a, vs, rfl, s, l, r⟩ := h
    have e1 : (ks.zip vs).length = ks.length := by
      have := r.length
      rw [List.length_zip]
      omega
    refine .inr (.inr ⟨a, _, rfl, s, ?_⟩)
    rw [e1]
    exact g.val (.int _)
  · rename_i s _ _ q
    cases q
    rw [Option.map_eq_some_iff] at ef
    obtain ⟨xs, e, rfl⟩ := ef
    obtain ⟨p, vs, rfl, sq, r⟩ := h.items e
    refine .inl ⟨p, vs, rfl, sq, ?_⟩
    rw [← r.length]
    exact g.val (.int _)
  · cases ef
def dAbs : List D → Option D
  | [.int i] => some (.int (if i < 0 then -i else i))
  | _ => none
def dMax2 : List D → Option D
  | [.int i, .int j] => some (.int (if j > i then j else i))
  | _ => none
theorem vn_max2 {G : GG} : VN G 2 (fun xs H Q => ∃ i j, xs = [.int i, .int j] ∧ Q (.int (if j > i then j else i)) H) dMax2 := VN.two fun H x y d e z Q h1 h2 ef g => by
  unfold dMax2 at ef
  split at ef
  · rename_i i j q
    cases q; cases ef
    rw [h1.intOf, h2.intOf]
    exact ⟨i, j, rfl, g.val (.int _)⟩
  · cases ef
def dInt : List D → Option D
  | [.int i] => some (.int i)
  | [.bl k] => some (.int (if k then 1 else 0))
  | _ => none
theorem vn_int {G : GG} : VN G 1 (fun xs H Q => (∃ i, xs = [.int i] ∧ Q (.int i) H) ∨ ∃ k, xs = [.bl k] ∧ Q (.int (if k then 1 else 0)) H) dInt := VN.one fun H x d z Q h ef g => by
  unfold dInt at ef
  split at ef
  · rename_i i q
    cases q; cases ef
    rw [h.intOf]
    exact .inl ⟨i, rfl, g.val (.int _)⟩
  · rename_i k q
    cases q; cases ef
    rw [h.blOf]
    exact .inr ⟨k, rfl, g.val (.int _)⟩
  · cases ef
def dTupOf : List D → Option D
  | [s] => (dItems s).map .tup
  | _ => none
theorem vn_tupOf {G : GG} : VN G 1 (rTupF G.K) dTupOf := VN.one fun H x d z Q h ef g => by
  have ef : (dItems d).map D.tup = some z := ef
  rw [Option.map_eq_some_iff] at ef
  obtain ⟨xs, e, rfl⟩ := ef
  cases d with
  | tup ds =>
    cases e
    obtain ⟨a, vs, rfl, s, r⟩ := h.tupOf
    exact ⟨a, vs, rfl, .inr ⟨s.sqt, g.val (.tup s r)⟩⟩
  | lst ds =>
    cases e
    obtain ⟨a, vs, rfl, s, r⟩ := h.lstOf
    exact ⟨a, vs, rfl, .inl ⟨SqL.of s, g.tup r⟩⟩
  | frl ds =>
    cases e
    obtain ⟨a, vs, rfl, s, r⟩ := h.frlOf
    exact ⟨a, vs, rfl, .inl ⟨s, g.tup r⟩⟩
  | _ => cases e
def dLstOf : List D → Option D
  | [s] => (dItems s).map .lst
  | _ => none
theorem vn_lstOf {G : GG} : VN G 1 (fun xs H Q => ∃ p ys, xs = [.ref p] ∧ (SqL G.K H p ys ∨ SqT G.K H p ys) ∧ ∀ l, H l = none → Q (.ref l) (upd H l (.lst ys))) dLstOf := VN.one fun H x d z Q h ef g => by
  have ef : (dItems d).map D.lst = some z := ef
  rw [Option.map_eq_some_iff] at ef
  obtain ⟨xs, e, rfl⟩ := ef
  obtain ⟨p, vs, rfl, sq, r⟩ := h.items e
  exact ⟨p, vs, rfl, sq, g.lst r⟩
def dInts : List D → Option (List Int)
  | [] => some []
  | .int i :: ds => (dInts ds).map (i :: ·)
  | _ => none
theorem dInts_eq : ∀ {ds : List D} {ns : List Int}, dInts ds = some ns → ds = ns.map D.int
  | [], _, e => by cases e; rfl
  | d :: ds, ns, e => by
    cases d with
    | int i =>
      have e : (dInts ds).map (i :: ·) = some ns := e
      rw [Option.map_eq_some_iff] at e
      obtain ⟨ms, e1, rfl⟩ := e
      rw [dInts_eq e1]
      rfl
    | _ => cases e
theorem dInts_map (ns : List Int) : dInts (ns.map D.int) = some ns := by
  induction ns with
  | nil => rfl
  | cons n ns ih =>
    show (dInts (ns.map D.int)).map (n :: ·) = _
    rw [ih]
    rfl
def dLInts : D → Option (List Int)
  | .lst xs => dInts xs
  | .frl xs => dInts xs
  | _ => none
theorem RS.lInts {G : GG} {H : Hp} {d : D} {v : V} {ns : List Int} (h : RS G H d v) (e : dLInts d = some ns) : ∃ a, v = .ref a ∧ SqL G.K H a (ns.map V.int) := by
  cases d with
  | lst ds =>
    obtain ⟨a, vs, rfl, s, r⟩ := h.lstOf
    have e := dInts_eq (show dInts ds = some ns from e)
    subst e
    rw [r.ints] at s
    exact ⟨a, rfl, SqL.of s⟩
  | frl ds =>
    obtain ⟨a, vs, rfl, s, r⟩ := h.frlOf
    have e := dInts_eq (show dInts ds = some ns from e)
    subst e
    rw [r.ints] at s
    exact ⟨a, rfl, s⟩
  | _ => cases e
def dSum : List D → Option D
  | [s] => (dLInts s).map fun ns => .int ns.sum
  | _ => none
theorem vn_sum {G : GG} : VN G 1 (rSum G.K) dSum := VN.one fun H x d z Q h ef g => by
  have ef : (dLInts d).map (fun ns => D.int ns.sum) = some z := ef
  rw [Option.map_eq_some_iff] at ef
  obtain ⟨ns, e, rfl⟩ := ef
  obtain ⟨a, rfl, s⟩ := h.lInts e
  exact ⟨a, ns, rfl, s, g.val (.int _)⟩
def insI (x : Int) : List Int → List Int
  | [] => [x]
  | y :: ys => if y < x then y :: insI x ys else x :: y :: ys
def sortI : List Int → List Int
  | [] => []
  | x :: xs => insI x (sortI xs)
theorem insI_perm (x : Int) : ∀ ys, (insI x ys).Perm (x :: ys)
  | [] => .refl _
  | y :: ys => by
    unfold insI
    split
    · exact ((insI_perm x ys).cons y).trans (.swap x y ys)
    · exact .refl _
theorem sortI_perm : ∀ xs, (sortI xs).Perm xs
  | [] => .refl _
  | x :: xs => (insI_perm x _).trans ((sortI_perm xs).cons x)
theorem insI_sorted (x : Int) : ∀ {ys : List Int}, ys.Pairwise (· ≤ ·) → (insI x ys).Pairwise (· ≤ ·)
  | [], _ => by simp [insI]
  | y :: ys, h => by
    unfold insI
    rw [List.pairwise_cons] at h
    split
    · rename_i c
      refine List.pairwise_cons.mpr ⟨fun z hz => ?_, insI_sorted x h.2⟩
      rcases List.mem_cons.mp ((insI_perm x ys).mem_iff.mp hz) with e | m
      · omega
      · exact h.1 z m
    · rename_i c
      refine List.pairwise_cons.mpr ⟨fun z hz => ?_, List.pairwise_cons.mpr h⟩
      rcases List.mem_cons.mp hz with e | m
      · omega
      · have := h.1 z m
        omega
theorem sortI_sorted : ∀ xs : List Int, (sortI xs).Pairwise (· ≤ ·)
  | [] => List.Pairwise.nil
  | x :: xs => insI_sorted x (sortI_sorted xs)
theorem sortI_uniq {ys xs : List Int} (p : ys.Perm xs) (h : ys.Pairwise (· ≤ ·)) : ys = sortI xs := PySem.W.ksm_same (p.trans (sortI_perm xs).symm) h (sortI_sorted xs)
def dSortL : List D → Option D
  | [s] => (dLInts s).map fun ns => .lst ((sortI ns).map .int)
  | _ => none
theorem vn_sortL {G : GG} : VN G 1 (rSortedI G.K) dSortL := VN.one fun H x d z Q h ef g => by
  have ef : (dLInts d).map (fun ns => D.lst ((sortI ns).map .int)) = some z := ef
  rw [Option.map_eq_some_iff] at ef
  obtain ⟨ns, e, rfl⟩ := ef
  obtain ⟨a, rfl, s⟩ := h.lInts e
  refine ⟨a, ns, rfl, s, fun ns' p pm ps hp => ?_⟩
  rw [sortI_uniq pm ps]
  exact g.lst (RVs.of_ints _) p hp
end TV
namespace TV
open PySem PySem.Spec PyProof.Rows L2
section
variable {prog : Program} {w : World} {A : Around} {E : Value → Shared → Prop} {s : Shared}
theorem collect_tup {l : Addr} {vs : List Value} {Q : List Value → Shared → Prop} (ht : IsTup s.heap l vs.toArray) (hsz : vs.length ≤ sizeLine)
    (h : Q vs { s with heap := (s.heap.push (seqObj "list" #[] 0)).update s.heap.objs.size (Obj.mapSeq (· ++ vs.toArray)) }) : wpAny (model prog w) A (collect (.ref l)) Q E s := by
  obtain ⟨ob, ho, hc, n, hd⟩ := ht
  have kept : (s.heap.push (seqObj "list" #[] 0)).get? l = some ob := Heap.get?_push_of_some _ ho
  have new : (s.heap.push (seqObj "list" #[] 0)).get? s.heap.objs.size = some (seqObj "list" #[] 0) := Heap.get?_push_size _ rfl
  unfold collect
  refine wpAny_bind (wpAny_runValue (codeAny_builtin entry_proto_collect' ?_))
  refine wpAny_bind (wpAny_newList (wpAny_pure ⟨Code.quiet_builtin _ (by decide +kernel), codeAny_builtin entry_list_iadd' ?_⟩))
  show wpAny _ _ (Builtin.List.listExtendWith (.ref s.heap.objs.size) (.ref l) (.ref s.heap.objs.size)) _ _ { s with heap := s.heap.push (seqObj "list" #[] 0) }
  unfold Builtin.List.listExtendWith
  refine wpAny_bind (wpAny_typeOf (T := "tuple") ⟨ob, kept, hc⟩ ?_)
  rw [if_pos (by rw [show (Value.type "tuple" == Value.type "tuple") = true from rfl, Bool.or_true])]
  refine wpAny_bind (listItems_at kept hd (wpAny_bind (listItems_at (xs := #[]) (n := 0) new rfl ?_)))
  rw [if_neg (by simp)]
  refine wpAny_bind (listUpdate_at (xs := #[]) (n := 0) new rfl (wpAny_pure ?_) (Nat.zero_le _) (by rw [Array.size_append, List.size_toArray]; show 0 + vs.length ≤ sizeLine + 1; omega))
  show wpAny (model prog w) A (load s.heap.objs.size >>= fun ob => match ob.data with
      | .seq xs _ => pure xs.toList
      | _ => unsupported "internal:collect") Q E { s with heap := (s.heap.push (seqObj "list" #[] 0)).update s.heap.objs.size (Obj.mapSeq (· ++ vs.toArray)) }
  refine wpAny_bind (wpAny_load (get?_update_seq new _) (wpAny_pure ?_))
  have e : ((#[] : Array Value) ++ vs.toArray).toList = vs := by simp
  rw [e]
  exact h
theorem sorted_tup {l : Addr} {vs : List Value} {lt : Value → Value → Bool} {Q : Value → Shared → Prop} (O : SrtO.Swo lt) (ht : IsTup s.heap l vs.toArray) (hz : vs.length ≤ sizeLine)
    (hS : 2 ≤ vs.length → ∀ (h₁ : Heap) (a : Addr), h₁.get? a = some (seqObj "list" vs.toArray 0) → (∀ b o, s.heap.get? b = some o → b ≠ a ∧ h₁.get? b = some o) → SrtO.SortableO prog w A.in1.in1 { s with heap := h₁ } a vs lt)
    (h : ∀ out : List Value, SrtO.Srtd lt out → SrtO.Stb lt out vs → Q (.ref (s.heap.objs.size + 1)) { s with heap := sortedAll s.heap vs out.toArray }) : wpAny (model prog w) A (call (.builtin "sorted") [.ref l]) Q E s := by
  have z1 : ((s.heap.push (seqObj "list" #[] 0)).update s.heap.objs.size (Obj.mapSeq (· ++ vs.toArray))).objs.size = s.heap.objs.size + 1 := by
    rw [Heap.size_update, size_push']
  have z2 : (((s.heap.push (seqObj "list" #[] 0)).update s.heap.objs.size (Obj.mapSeq (· ++ vs.toArray))).push (seqObj "list" vs.toArray 0)).get? ((s.heap.push (seqObj "list" #[] 0)).update s.heap.objs.size (Obj.mapSeq (· ++ vs.toArray))).objs.size = some (seqObj "list" vs.toArray 0) := Heap.get?_push_size _ rfl
  rw [z1] at z2
  refine Calls.call_function_entry kind_sorted plain_sorted entry_sorted (args_sorted1 _) ?_
  unfold Builtin.«sorted»
  refine wpAny_bind (m := checkCount "sorted" 1 1 _) (wpAny_pure (wpAny_bind (collect_tup ht hz (wpAny_bind (wpAny_newList ?_ hz)))))
  show wpAny _ _ _ _ _ { s with heap := ((s.heap.push (seqObj "list" #[] 0)).update s.heap.objs.size (Obj.mapSeq (· ++ vs.toArray))).push (seqObj "list" vs.toArray 0) }
  rw [z1]
  refine wpAny_bind (wpAny_holding (wpAny_call_entry slot_list_sort ⟨_, z2, rfl⟩ entry_list_sort (SrtO.list_sort_ord O z2 hz (fun h2 => hS h2 _ _ z2 fun b o q => ?_) fun out hs hb => ⟨_, rfl, ?_⟩) (args_list_sort _)))
  · have lb : b < s.heap.objs.size := Heap.lt_size q
    refine ⟨Nat.ne_of_lt (Nat.lt_succ_of_lt lb), Heap.get?_push_of_some _ ?_⟩
    rw [Heap.get?_update_ne _ _ _ _ (Nat.ne_of_lt lb)]
    exact Heap.get?_push_of_some _ q
  · exact wpAny_pure ⟨_, rfl, h out hs hb⟩
end
section
variable {X : Cx}
def rSortT (K : PySem.W.Frag) : List V → Hp → VK → Prop := fun vs H Q => ∃ (a : Addr) (ns : List Int), vs = [V.ref a] ∧ SqT K H a (ns.map V.int) ∧
  ∀ (ms : List Int) (p : Addr), ms.Perm ns → ms.Pairwise (· ≤ ·) → H p = none → Q (.ref p) (upd H p (.lst (ms.map V.int)))
theorem cr_sortT : CallR X (.builtin "sorted") (rSortT X.K) := by
  rintro pins s σ H vs us Q I r ⟨a, ns, rfl, hs, q⟩
  obtain ⟨it, rv, ht, hz⟩ := I.tuple hs
  rw [Vals.ref1 r]
  have hi := rv.ints
  refine sorted_tup SrtO.swo_int ht (by rw [← rv.length]; exact hz) (fun h2 _ _ _ _ => SrtO.ints_sortable hi h2) fun out h1 h2 => ?_
  obtain ⟨k1, k2, k3⟩ := SrtO.ints_out hi h1 h2
  obtain ⟨ep, at'⟩ := PyProof.Rows.sortedAll_at s.heap it out.toArray
  have ln : ((out.map SrtO.iv).map V.int).length ≤ sizeLine := by
    rw [List.length_map] at hz ⊢
    rw [k2.length_eq]
    exact hz
  have I2 := I.laid (a := s.heap.objs.size + 1) (o := .lst ((out.map SrtO.iv).map V.int)) (t' := s.toks) (h' := sortedAll s.heap it out.toArray) (fun _ _ => PyProof.Rows.sortedAll_old) (Nat.le_succ _) ⟨ln, out, ep, vals_of_ints k1, at'⟩
  exact ⟨V.ref (s.heap.objs.size + 1), _, I2, rfl, q _ _ k2 k3 (I.hok.fresh (Nat.le_succ _))⟩
end
def dTInts : D → Option (List Int)
  | .tup xs => dInts xs
  | _ => none
theorem RS.tInts {G : GG} {H : Hp} {d : D} {v : V} {ns : List Int} (h : RS G H d v) (e : dTInts d = some ns) : ∃ a, v = .ref a ∧ TupS G.K H a (ns.map V.int) := by
  cases d with
  | tup ds =>
    obtain ⟨a, vs, rfl, s, r⟩ := h.tupOf
    have e := dInts_eq (show dInts ds = some ns from e)
    subst e
    rw [r.ints] at s
    exact ⟨a, rfl, s⟩
  | _ => cases e
def dSortT : List D → Option D
  | [s] => (dTInts s).map fun ns => .lst ((sortI ns).map .int)
  | _ => none
theorem vn_sortT {G : GG} : VN G 1 (rSortT G.K) dSortT := VN.one fun H x d z Q h ef g => by
  have ef : (dTInts d).map (fun ns => D.lst ((sortI ns).map .int)) = some z := ef
  rw [Option.map_eq_some_iff] at ef
  obtain ⟨ns, e, rfl⟩ := ef
  obtain ⟨a, rfl, s⟩ := h.tInts e
  refine ⟨a, ns, rfl, s.sqt, fun ms p pm ps hp => ?_⟩
  rw [sortI_uniq pm ps]
  exact g.lst (RVs.of_ints _) p hp
def dKInts : List Key → Option (List Int)
  | [] => some []
  | .inl i :: ks => (dKInts ks).map (i :: ·)
  | _ => none
theorem dKInts_eq : ∀ {ks : List Key} {ns : List Int}, dKInts ks = some ns → ks = ns.map Sum.inl
  | [], _, e => by cases e; rfl
  | .inl i :: ks, ns, e => by
    have e : (dKInts ks).map (i :: ·) = some ns := e
    rw [Option.map_eq_some_iff] at e
    obtain ⟨ms, e1, rfl⟩ := e
    rw [dKInts_eq e1]
    rfl
  | .inr x :: ks, ns, e => by cases e
def dSortK : List D → Option D
  | [.dic ks _] => match dKInts ks with
    | some ns => if ns.length < 64 then some (.lst ((sortI ns).map .int)) else none
    | none => none
  | _ => none
abbrev rSortK : List V → Hp → VK → Prop := fun xs H Q => ∃ (a : Addr) (kvs : List (Key × V)) (ks : List Int), xs = [.ref a] ∧ Rd H a (.dK kvs) ∧ kvs.map (·.1) = ks.map Sum.inl ∧ ks.length < 64 ∧
    ∀ (ys : List Int) (p : Addr), ys.Perm ks → ys.Pairwise (· ≤ ·) → H p = none → Q (.ref p) (upd H p (.lst (ys.map V.int)))
theorem vn_sortK {G : GG} : VN G 1 rSortK dSortK := VN.one fun H x d z Q h ef g => by
  unfold dSortK at ef
  split at ef
  · rename_i ks ds q
    cases q
    split at ef
    · rename_i ns e
      split at ef
      · rename_i l
        cases ef
        obtain ⟨a, vs, rfl, s, ln, r⟩ := h
        have e := dKInts_eq e
        subst e
        refine ⟨a, _, ns, rfl, .inl s, ?_, l, fun ms p pm ps hp => ?_⟩
        · rw [List.map_fst_zip]
          have := r.length
          omega
        · rw [sortI_uniq pm ps]
          exact g.lst (RVs.of_ints _) p hp
      · cases ef
    · cases ef
  · cases ef
section
variable {X : Cx}
end
def ixOf (k : Int) : List Int → Nat
  | [] => 0
  | n :: ns => if n = k then 0 else ixOf k ns + 1
theorem ixOf_eq (k : Int) : ∀ ns : List Int, ixOf k ns = ns.idxOf k
  | [] => rfl
  | n :: ns => by
    rw [List.idxOf_cons]
    unfold ixOf
    by_cases e : n = k
    · rw [if_pos e, e, beq_self_eq_true]
      rfl
    · rw [if_neg e, show (n == k) = false from beq_eq_false_iff_ne.mpr e, ixOf_eq k ns]
      rfl
end TV
namespace TV
open PySem PySem.Spec PyProof.Rows L2
def Opd.p : Opd → D → Bool
  | .var _ p => p
  | .tmp _ p => p
theorem tO_mono {G : GG} {W : WX} {o : Opd} {σ : L2.St} {H : Hp} {K K' : VK} (h : tO G W o σ H K) (f : ∀ x H1, Met G o.p x H1 → K x H1 → K' x H1) : tO G W o σ H K' := by
  cases o with
  | var i p =>
    obtain ⟨v, e, m, k⟩ := h
    exact ⟨v, e, m, f _ _ m k⟩
  | tmp m p => exact rdE.mono h fun v H1 ⟨mm, k⟩ => ⟨mm, f _ _ mm k⟩
theorem RE.put {G : GG} {ρ : Env} {σ : L2.St} {H : Hp} {i : Nat} {d e : D} {a : Addr} {u o : HO} (r : RE G ρ σ H) (e1 : ρ[i]? = some (some d)) (w1 : d.own = true) (s1 : σ[i]? = some (some (.ref a))) (hu : H a = some u) (fu : MutO u)
    (w2 : e.own = true) (rs : RS G (upd H a o) e (.ref a)) : RE G (ρ.set i (some e)) σ (upd H a o) := by
  have hi : i < ρ.length := (List.getElem?_eq_some_iff.mp e1).1
  have fx : Fix H (upd H a o) := fix_upd hu fu
  have back : ∀ (j : Nat) (x : D), (ρ.set i (some e))[j]? = some (some x) → (j = i ∧ x = e) ∨ (j ≠ i ∧ ρ[j]? = some (some x)) := fun j x q => by
    by_cases c : j = i
    · subst c
      rw [List.getElem?_set_self hi] at q
      cases q
      exact .inl ⟨rfl, rfl⟩
    · rw [List.getElem?_set_ne (Ne.symm c)] at q
      exact .inr ⟨c, q⟩
  refine ⟨by rw [List.length_set]; exact r.len, fun j x q => ?_, fun j k x y b q1 q2 o1 o2 t1 t2 => ?_, G.pinOk _ _ fx r.pin, r.spin⟩
  · rcases back j x q with ⟨rfl, rfl⟩ | ⟨c, q⟩
    · exact ⟨_, s1, rs⟩
    · obtain ⟨v, s2, rs2⟩ := r.val j x q
      refine ⟨v, s2, rs2.keep fx fun b y hv ow hy _ => ?_⟩
      subst hv
      have : b ≠ a := fun z => by
        subst z
        exact c (r.sep j i x d b q e1 ow w1 s2 s1)
      rw [upd_ne this]
      exact hy
  · rcases back j x q1 with ⟨g1, _⟩ | ⟨_, p1⟩
    · rcases back k y q2 with ⟨g2, _⟩ | ⟨_, p2⟩
      · rw [g1, g2]
      · exact r.sep j k d y b (by rw [g1]; exact e1) p2 w1 o2 t1 t2
    · rcases back k y q2 with ⟨g2, _⟩ | ⟨_, p2⟩
      · exact r.sep j k x d b p1 (by rw [g2]; exact e1) o1 w1 t1 t2
      · exact r.sep j k x y b p1 p2 o1 o2 t1 t2
theorem own_put {ρ : Env} {σ : L2.St} {i : Nat} {d e : D} {b : Addr} (e1 : ρ[i]? = some (some d)) (w1 : d.own = true) (h : own (ρ.set i (some e)) σ b) : own ρ σ b := by
  obtain ⟨j, x, q, o, s⟩ := h
  by_cases c : j = i
  · subst c
    exact ⟨j, d, e1, w1, s⟩
  · rw [List.getElem?_set_ne (Ne.symm c)] at q
    exact ⟨j, x, q, o, s⟩
theorem Fr.put {ρ : Env} {σ : L2.St} {H : Hp} {i : Nat} {d e : D} {a : Addr} {u o : HO} (e1 : ρ[i]? = some (some d)) (w1 : d.own = true) (s1 : σ[i]? = some (some (.ref a))) (hu : H a = some u) (fu : MutO u) : Fr ρ σ H (ρ.set i (some e)) σ (upd H a o) :=
  (Fr.refl.less fun b z => own_put e1 w1 z).updD hu fu (.inr ⟨i, d, e1, w1, s1⟩)
def pTup : D → Bool
  | .tup _ => true
  | _ => false
def pLst : D → Bool
  | .lst _ => true
  | _ => false
section
variable {X : Cx} {G : GG} {W : WX} {o e : Expr} {es : List Expr} {to : TE} {t : TA} {name : Str} {apos cpos : Pos} {id : String} {r : V → List V → Hp → VK → Prop}
end
section
variable {X : Cx} {G : GG} {W : WX} {o e : Expr} {oo oe : Opd} {apos cpos : Pos}
end
def kMut (i : Nat) (os : List Opd) (f : List D → List D → Option (List D × D)) : List (Option D) × Env → R (D × Env) := fun q => match q.2[i]?, rds os q.1 q.2 with
  | some (some (.lst xs)), some ds => match f xs ds with
    | some (ys, z) => .ok (z, q.2.set i (some (.lst ys)))
    | none => .stuck
  | _, _ => .stuck
def mMut (i : Nat) (os : List Opd) (f : List D → List D → Option (List D × D)) : ME := fun ρ => match ρ[i]? with
  | some (some (.lst _)) => (ev os ρ).bind (kMut i os f)
  | _ => .stuck
def MutR (G : GG) (n : Nat) (r : V → List V → Hp → VK → Prop) (f : List D → List D → Option (List D × D)) : Prop := ∀ (H : Hp) (a : Addr) (vs ws : List V) (xs ds ys : List D) (z : D) (Q : VK), ds.length = n → H a = some (.lst vs) → RVs G H xs vs → RSs G H ds ws →
  f xs ds = some (ys, z) → (∀ v us, RVs G H ys us → RV G H z v → Q v (upd H a (.lst us))) → r (.ref a) ws H Q
theorem rdMut {G : GG} {W : WX} {i : Nat} {os : List Opd} {f : List D → List D → Option (List D × D)} {r : V → List V → Hp → VK → Prop} (hr : MutR G os.length r f) {σ : L2.St} {H : Hp} {Q : VK} (q : rdE G W (mMut i os f) σ H Q) :
    tO G W (.var i pLst) σ H fun x H1 => tOs G W os σ H1 fun xs H2 => r x xs H2 Q := by
  obtain ⟨ρ, re, q⟩ := q
  unfold mMut at q
  split at q
  case h_2 => exact q.elim
  rename_i xs0 e0
  obtain ⟨v, s0, rs0⟩ := re.val i _ e0
  refine ⟨v, s0, ⟨_, rfl, rs0⟩, opds_run (W := W) re ?_⟩
  cases e : ev os ρ with
  | exc c w ρ' => rw [e] at q; exact q
  | stuck => rw [e] at q; exact q
  | ok p =>
    rw [e] at q
    obtain ⟨ps, ρ1⟩ := p
    intro ws H1 re1 fr hq
    have q : postE G W ρ σ H Q (match ρ1[i]?, rds os ps ρ1 with
      | some (some (.lst xs)), some ds => match f xs ds with
        | some (ys, z) => .ok (z, ρ1.set i (some (.lst ys)))
        | none => .stuck
      | _, _ => .stuck) := q
    split at q
    case h_2 => exact q.elim
    rename_i xs ds e1 e2
    split at q
    case h_2 => exact q.elim
    rename_i ys z e3
    obtain ⟨v1, s1, rs1⟩ := re1.val i _ e1
    rw [s0] at s1
    cases s1
    obtain ⟨a, us, rfl, ha, rv⟩ := rs1
    refine hr H1 a us ws xs ds ys z Q (rds_len e2) ha rv (hq ds e2) e3 fun v2 us2 r2 r3 => ?_
    have fx : Fix H1 (upd H1 a (.lst us2)) := fix_upd ha (.lst _)
    refine q v2 _ (re1.put e1 rfl s0 ha (.lst _) rfl ⟨a, us2, rfl, upd_same, r2.mono fx⟩) (fr.trans (Fr.put e1 rfl s0 ha (.lst _))) (Res.of_rv (r3.mono fx))
section
variable {X : Cx} {G : GG} {W : WX} {o e : Expr} {es : List Expr} {i : Nat} {os : List Opd} {name : Str} {apos cpos : Pos} {id : String} {r : V → List V → Hp → VK → Prop} {f : List D → List D → Option (List D × D)}
theorem met_lst {x : V} {H : Hp} (m : Met G pLst x H) : tyV G.K "list" x H := by
  obtain ⟨d, e, rs⟩ := m
  cases d with
  | lst ds =>
    obtain ⟨a, vs, rfl, s, _⟩ := rs.lstOf
    exact .inl ⟨rfl, vs, SqL.of s⟩
  | _ => cases e
theorem se_mut (c : CT X G W) (slot : Slot "list" name id) (hty : typeOf (.builtin id) = pure (.type "method_descriptor")) (hm : MtR X id r) (hf : MutR G os.length r f) (ho : PE X o (tVar i)) (ha : SOs X G W (e :: es) os)
    (hbase : attributeBase o name X.env (eval o X.env) = eval o X.env := by rfl)
    (hfew : ((backTo cpos (starEach (e :: es) X.env)).all (fun x => !x.1) && (backToKw cpos (keywordEach [] X.env)).all (fun x => x.1.isSome) && decide ((e :: es).length + ([] : List Keyword).length + (if ([] : List Keyword).isEmpty then 0 else 1) < 30)) = true := by rfl)
    (hline : (apos.endLine == cpos.line) = true := by rfl) (hs : starEach (e :: es) X.env = (false, eval e X.env) :: starEach es X.env := by rfl) (hpl : (backTo cpos (starEach es X.env)).any (·.1) = false := by rfl) :
    SE X G W (.Call (.Attribute o name apos) (e :: es) [] cpos) (mMut i os f) :=
  pe_wk (pe_bm PySem.F.plainAttrs_list slot hty hm ho ha hbase hfew hline hs hpl) fun σ H Q q => by
    obtain ⟨v, s, m, z⟩ := rdMut hf q
    exact ⟨v, s, by rw [← c.k]; exact met_lst m, z⟩
end
def fAppend (xs : List D) : List D → Option (List D × D)
  | [y] => if y.own = false ∧ xs.length < sizeLine then some (xs ++ [y], .non) else none
  | _ => none
theorem mu_append {G : GG} : MutR G 1 rAppend fAppend := by
  intro H a vs ws xs ds ys z Q ln ha rv rs ef q
  unfold fAppend at ef
  split at ef
  · rename_i y
    split at ef
    · rename_i c
      cases ef
      cases rs with
      | cons h r =>
        cases r
        have hv := h.rv c.1
        exact ⟨a, vs, _, rfl, rfl, ha, by rw [← rv.length]; exact c.2, q _ _ (rv.app (.cons hv .nil)) .non⟩
    · cases ef
  · cases ef
end TV
namespace TV
open PySem PySem.Spec PyProof.Rows L2
theorem RE.set {G : GG} {ρ ρ0 : Env} {σ σ0 : L2.St} {H H0 : Hp} {d : D} {v : V} (r : RE G ρ σ H) (q : Res G ρ0 σ0 H0 ρ σ H d v) (i : Nat) (hj : G.slot ≠ some i) : RE G (ρ.set i (some d)) (σ.set i (some v)) H := by
  have key : ∀ (j : Nat) (x : D), (ρ.set i (some d))[j]? = some (some x) → (j = i ∧ x = d ∧ (σ.set i (some v))[j]? = some (some v)) ∨ (j ≠ i ∧ ρ[j]? = some (some x) ∧ (σ.set i (some v))[j]? = σ[j]?) := fun j x e => by
    by_cases c : j = i
    · subst c
      have hl : j < ρ.length := by
        have := (List.getElem?_eq_some_iff.mp e).1
        rw [List.length_set] at this
        exact this
      rw [List.getElem?_set_self hl] at e
      cases e
      exact .inl ⟨rfl, rfl, List.getElem?_set_self (by rw [← r.len]; exact hl)⟩
    · rw [List.getElem?_set_ne (Ne.symm c)] at e
      exact .inr ⟨c, e, List.getElem?_set_ne (Ne.symm c)⟩
  have apart : ∀ (j : Nat) (x : D) (a : Addr), v = .ref a → d.own = true → ρ[j]? = some (some x) → x.own = true → σ[j]? = some (some (.ref a)) → False := fun j x a ev od e ox s => (q.2 a ev od).1 ⟨j, x, e, ox, s⟩
  refine ⟨by rw [List.length_set, List.length_set]; exact r.len, fun j x e => ?_, fun j k x y a e1 e2 o1 o2 s1 s2 => ?_, r.pin, fun j hk => (by rw [List.getElem?_set_ne (fun e => hj (by rw [e]; exact hk))]; exact r.spin j hk)⟩
  · rcases key j x e with ⟨_, rfl, s⟩ | ⟨_, e', s⟩
    · exact ⟨v, s, q.1⟩
    · rw [s]
      exact r.val j x e'
  · rcases key j x e1 with ⟨g1, h1, t1⟩ | ⟨g1, h1, t1⟩
    · rcases key k y e2 with ⟨g2, h2, t2⟩ | ⟨g2, h2, t2⟩
      · rw [g1, g2]
      · rw [t1] at s1
        cases s1
        rw [t2] at s2
        subst h1
        exact (apart k y a rfl o1 h2 o2 s2).elim
    · rcases key k y e2 with ⟨g2, h2, t2⟩ | ⟨g2, h2, t2⟩
      · rw [t2] at s2
        cases s2
        rw [t1] at s1
        subst h2
        exact (apart j x a rfl o2 h1 o1 s1).elim
      · rw [t1] at s1
        rw [t2] at s2
        exact r.sep j k x y a h1 h2 o1 o2 s1 s2
theorem RE.setN {G : GG} [NoSlot G] {ρ ρ0 : Env} {σ σ0 : L2.St} {H H0 : Hp} {d : D} {v : V} (r : RE G ρ σ H) (q : Res G ρ0 σ0 H0 ρ σ H d v) (i : Nat) : RE G (ρ.set i (some d)) (σ.set i (some v)) H := r.set q i (by rw [NoSlot.h]; exact fun h => nomatch h)
theorem own_set {ρ : Env} {σ : L2.St} {i : Nat} {d : D} {v : V} {b : Addr} (hl : ρ.length = σ.length) (h : own (ρ.set i (some d)) (σ.set i (some v)) b) : (v = .ref b ∧ d.own = true) ∨ own ρ σ b := by
  obtain ⟨j, x, e, o, s⟩ := h
  by_cases c : j = i
  · subst c
    have l : j < ρ.length := by
      have := (List.getElem?_eq_some_iff.mp e).1
      rw [List.length_set] at this
      exact this
    rw [List.getElem?_set_self l] at e
    cases e
    rw [List.getElem?_set_self (by rw [← hl]; exact l)] at s
    cases s
    exact .inl ⟨rfl, o⟩
  · rw [List.getElem?_set_ne (Ne.symm c)] at e s
    exact .inr ⟨j, x, e, o, s⟩
theorem Fr.set {G : GG} {ρ ρ1 : Env} {σ : L2.St} {H H1 : Hp} {d : D} {v : V} {i : Nat} (r : RE G ρ1 σ H1) (f : Fr ρ σ H ρ1 σ H1) (q : Res G ρ σ H ρ1 σ H1 d v) : Fr ρ σ H (ρ1.set i (some d)) (σ.set i (some v)) H1 := f.more fun b z => by
  rcases own_set r.len z with ⟨e, w⟩ | z
  · exact .inr (q.2 b e w).2
  · exact .inl z
theorem same_set {σ : L2.St} {i : Nat} {v : V} : SameBut [i] σ (σ.set i (some v)) := fun j h => by
  rw [List.getElem?_set_ne (fun e => h (by rw [e]; exact List.mem_cons_self))]
section
variable {X : Cx} {G : GG} {W : WX} {pos : Pos}
def mDo (m : ME) (k : D × Env → R (Out × Env)) : MS := fun ρ => (m ρ).bind k
theorem rdES {m : ME} {k : D × Env → R (Out × Env)} {A : List Nat} {E : Ends} {σ : L2.St} {H : Hp} {Q : VK} (q : rdS G W A (mDo m k) E σ H)
    (f : ∀ ρ ρ1 d v H1, RE G ρ1 σ H1 → Fr ρ σ H ρ1 σ H1 → Res G ρ σ H ρ1 σ H1 d v → postS G W A ρ σ H E (k (d, ρ1)) → Q v H1) : rdE G W m σ H Q := by
  obtain ⟨ρ, re, q⟩ := q
  refine ⟨ρ, re, ?_⟩
  have q : postS G W A ρ σ H E ((m ρ).bind k) := q
  cases e : m ρ with
  | ok p =>
    rw [e] at q
    exact fun v H1 r1 fr rs => f ρ p.2 p.1 v H1 r1 fr rs q
  | exc c w ρ' =>
    rw [e] at q
    exact fun σ' H' dd fs v r1 r2 r3 => q σ' H' dd fs v r1 r2 (fun i _ => r3 i (fun h => nomatch h))
  | stuck => rw [e] at q; exact q
def kSet (i : Nat) : D × Env → R (Out × Env) := fun p => .ok (.nx, p.2.set i (some p.1))
abbrev mSet (i : Nat) (m : ME) : MS := mDo m (kSet i)
theorem ss_set {i : Nat} {x : Str} {e : Expr} {m : ME} {pos' : Pos} (c : CT X G W) (hi : X.N[i]? = some x) (hx : Loc X.env.scope x) (he : SE X G W e m) (hs : swapsWith e (some (.Name x pos')) pos.line X.env = pure false := by rfl)
    (hf : X.fn x = true ∨ X.env.scope.names.lookup x = some .local := by first | exact .inl rfl | exact .inr rfl | assumption)
    (hj : G.slot ≠ some i := by first | exact fun h => nomatch h | (intro h; cases h)) : SS X G W (.Assign [.Name x pos'] e pos) [i] (mSet i m) :=
  ps_wk (ps_set c.nd hi hx he hs hf) fun E σ H q => rdES q fun ρ ρ1 d v H1 r1 fr rs z => z _ H1 (r1.set rs i hj) (Fr.set r1 fr rs) same_set
def kDrop : D × Env → R (Out × Env) := fun p => .ok (.nx, p.2)
theorem ss_expr {e : Expr} {m : ME} (he : SE X G W e m) (hs : swapsWith e none pos.line X.env = pure false := by rfl) : SS X G W (.Expr e pos) [] (mDo m kDrop) :=
  ps_wk (ps_expr he hs) fun E σ H q => rdES q fun ρ ρ1 d v H1 r1 fr rs z => z σ H1 r1 fr SameBut.refl
def kRet : D × Env → R (Out × Env) := fun p => .ok (.rt p.1, p.2)
theorem ss_ret {e : Expr} {m : ME} (he : SE X G W e m) : SS X G W (.Return (some e) pos) [] (mDo m kRet) :=
  ps_wk (ps_ret he) fun E σ H q => rdES q fun ρ ρ1 d v H1 r1 fr rs z => z v σ H1 r1 fr SameBut.refl rs
def mNext : MS := fun ρ => .ok (.nx, ρ)
def mNever : MS := fun _ => .stuck
def kSeq (n : MS) : Out × Env → R (Out × Env)
  | (.nx, ρ) => n ρ
  | p => .ok p
def mSeq (m n : MS) : MS := fun ρ => (m ρ).bind (kSeq n)
theorem sss_nil : SSs X G W [] [] mNext := pss_wk pss_nil fun E σ H q => by
  obtain ⟨ρ, re, q⟩ := q
  exact q σ H re Fr.refl SameBut.refl
theorem sss_one {st : Stmt} {A : List Nat} {m : MS} (h : SS X G W st A m) : SSs X G W [st] A m := pss_one h
theorem postS.wide {A B : List Nat} {ρ : Env} {σ : L2.St} {H : Hp} {E : Ends} {r : R (Out × Env)} (h : postS G W B ρ σ H E r) (s : ∀ i, i ∈ A → i ∈ B) : postS G W A ρ σ H E r := by
  have sb : ∀ {σ' : L2.St}, SameBut A σ σ' → SameBut B σ σ' := fun {σ'} t i hi => t i fun z => hi (s i z)
  cases r with
  | ok p =>
    obtain ⟨o, ρ'⟩ := p
    cases o with
    | nx => exact fun σ' H' q g t => h σ' H' q g (sb t)
    | bk => exact fun σ' H' q g t => h σ' H' q g (sb t)
    | ct => exact fun σ' H' q g t => h σ' H' q g (sb t)
    | rt d => exact fun v σ' H' q g t z => h v σ' H' q g (sb t) z
  | exc c w ρ' => exact fun σ' H' dd fs v q g t => h σ' H' dd fs v q g (sb t)
  | stuck => exact h
theorem sss_cons {st : Stmt} {rest : List Stmt} {A B : List Nat} {m n : MS} (h : SS X G W st A m) (k : SSs X G W rest B n) : SSs X G W (st :: rest) (A ++ B) (mSeq m n) :=
  pss_wk (pss_cons h k) fun E σ H q => by
    obtain ⟨ρ, re, q⟩ := q
    refine ⟨ρ, re, ?_⟩
    have q : postS G W (A ++ B) ρ σ H E ((m ρ).bind (kSeq n)) := q
    cases e : m ρ with
    | ok p =>
      rw [e] at q
      obtain ⟨o, ρ1⟩ := p
      cases o with
      | nx => exact fun σ1 H1 r1 fr sb => ⟨ρ1, r1, postS.ahead (r := n ρ1) q fr sb⟩
      | bk => exact postS.wide (r := .ok (.bk, ρ1)) q fun i z => List.mem_append_left _ z
      | ct => exact postS.wide (r := .ok (.ct, ρ1)) q fun i z => List.mem_append_left _ z
      | rt d => exact postS.wide (r := .ok (.rt d, ρ1)) q fun i z => List.mem_append_left _ z
    | exc c w ρ' => rw [e] at q; exact postS.wide (E := E) (r := .exc c w ρ') q fun i z => List.mem_append_left _ z
    | stuck => rw [e] at q; exact q
def kIfS (a b : MS) : Bool → MS
  | true => a
  | false => b
abbrev mIfS (t : MT) (a b : MS) : MS := tThen t (kIfS a b)
theorem rdS.wide {A B : List Nat} {m : MS} {E : Ends} {σ : L2.St} {H : Hp} (h : rdS G W B m E σ H) (s : ∀ i, i ∈ A → i ∈ B) : rdS G W A m E σ H := by
  obtain ⟨ρ, re, q⟩ := h
  exact ⟨ρ, re, q.wide s⟩
theorem ss_if {c : Expr} {a b : List Stmt} {A B : List Nat} {t : MT} {m n : MS} (hc : ST X G W c t) (ha : SSs X G W a A m) (hb : SSs X G W b B n) : SS X G W (.If c a b pos) (A ++ B) (mIfS t m n) :=
  ps_wk (ps_if hc ha hb) fun E σ H q => (rdTS q).mono fun b H1 z => by
    cases b with
    | true => exact rdS.wide (m := m) z fun i h => List.mem_append_left _ h
    | false => exact rdS.wide (m := n) z fun i h => List.mem_append_right _ h
end
end TV
namespace TV
open PySem PySem.Spec PyProof.Rows L2
def forL (tg : D → Env → R Env) (b : MS) : List D → MS
  | [], ρ => .ok (.nx, ρ)
  | d :: ds, ρ => (tg d ρ).bind fun ρ1 => (b ρ1).bind fun q => match q with
    | (.nx, ρ2) => forL tg b ds ρ2
    | (.ct, ρ2) => forL tg b ds ρ2
    | (.bk, ρ2) => .ok (.nx, ρ2)
    | (.rt d, ρ2) => .ok (.rt d, ρ2)
abbrev YY := Hp → D → V → Prop
def Y1 (G : GG) : YY := fun H d x => RV G H d x
def Y2 (G : GG) : YY := fun H d x => ∃ ds a vs, d = .tup ds ∧ x = .ref a ∧ SqT G.K H a vs ∧ RVs G H ds vs
structure ItIs (G : GG) (J : It) (Y : YY) (ds : List D) (S : Env → L2.St → Hp → Prop) : Prop where
  stay : ∀ ρ σ H ρ' σ' H', S ρ σ H → RE G ρ σ H → Fr ρ σ H ρ' σ' H' → S ρ' σ' H'
  off : ∀ ρ1 σ1 H1 D, S ρ1 σ1 H1 → H1 D = none → ∀ ρ σ H u o, S ρ σ H → H D = some u → MutO u → S ρ σ (upd H D o)
  go : ∀ ρ σ H j, S ρ σ H → j < ds.length → J.go j H
  stop : ∀ ρ σ H j, S ρ σ H → ds.length ≤ j → J.stop j H
  yld : ∀ ρ σ H j x H' d, S ρ σ H → RE G ρ σ H → J.yld j H x H' → ds[j]? = some d → Same H H' ∧ Y H' d x
def GOk (G : GG) (Y : YY) (g : TG) (A : List Nat) (tg : D → Env → R Env) : Prop := ∀ (d : D) (x : V) (ρ ρ' : Env) (σ : L2.St) (H : Hp) (K : L2.St → Hp → Prop), RE G ρ σ H → Y H d x → tg d ρ = .ok ρ' →
  (∀ σ' H', RE G ρ' σ' H' → Fr ρ σ H ρ' σ' H' → SameBut A σ σ' → K σ' H') → g x σ H K
def NoExc (tg : D → Env → R Env) : Prop := ∀ d ρ c w ρ', tg d ρ ≠ .exc c w ρ'
theorem for_core {G : GG} [NoSlot G] {W : WX} {J : It} {Y : YY} {ds : List D} {S : Env → L2.St → Hp → Prop} {g : TG} {A B : List Nat} {tg : D → Env → R Env} {b : MS} {E : Ends} {ρ ρ1 : Env} {σ : L2.St} {H H1 : Hp}
    (I : ItIs G J Y ds S) (hg : GOk G Y g A tg) (hn : NoExc tg) (r1 : RE G ρ1 σ H1) (f1 : Fr ρ σ H ρ1 σ H1) (s1 : S ρ1 σ H1) (q : postS G W (A ++ B) ρ σ H E (forL tg b ds ρ1)) :
    ∃ Wi : Nat → Nat → L2.St → Hp → Prop, (∃ m, Wi 0 m σ H1) ∧ ∀ i m σ H, Wi i m σ H →
      (J.stop i H ∧ E.nx σ H) ∨ (J.go i H ∧ ∃ N : L2.St → Hp → Prop, (∀ σ' H', N σ' H' → ∃ m', m' < m ∧ Wi (i + 1) m' σ' H') ∧ ∀ x H', J.yld i H x H' → g x σ H' fun σ2 H2 => rdS G W B b { E with nx := N, ct := N, bk := E.nx } σ2 H2) := by
  refine ⟨fun j m σ' H' => m = ds.length - j ∧ j ≤ ds.length ∧ ∃ ρ', RE G ρ' σ' H' ∧ Fr ρ σ H ρ' σ' H' ∧ SameBut (A ++ B) σ σ' ∧ S ρ' σ' H' ∧ postS G W (A ++ B) ρ σ H E (forL tg b (ds.drop j) ρ'),
    ⟨ds.length, rfl, Nat.zero_le _, ρ1, r1, f1, SameBut.refl, s1, q⟩, ?_⟩
  rintro j m σ2 H2 ⟨rfl, hj, ρ2, r2, f2, sb2, s2, p2⟩
  by_cases c : j < ds.length
  · have e0 : ds[j]? = some ds[j] := List.getElem?_eq_getElem c
    rw [List.drop_eq_getElem_cons c] at p2
    refine .inr ⟨I.go _ _ _ j s2 c, fun σ' H' => ∃ m', m' < ds.length - j ∧ m' = ds.length - (j + 1) ∧ j + 1 ≤ ds.length ∧ ∃ ρ', RE G ρ' σ' H' ∧ Fr ρ σ H ρ' σ' H' ∧ SameBut (A ++ B) σ σ' ∧ S ρ' σ' H' ∧ postS G W (A ++ B) ρ σ H E (forL tg b (ds.drop (j + 1)) ρ'), fun σ' H' z => z, fun x H3 y => ?_⟩
    obtain ⟨sm, y3⟩ := I.yld _ _ _ j x H3 _ s2 r2 y e0
    have r3 := r2.same sm
    have f3 : Fr ρ2 σ2 H2 ρ2 σ2 H3 := Fr.same sm
    unfold forL at p2
    cases e : tg ds[j] ρ2 with
    | exc c w ρ' => exact absurd e (hn _ _ _ _ _)
    | stuck => rw [e] at p2; exact p2.elim
    | ok ρ4 =>
      rw [e] at p2
      have p2 : postS G W (A ++ B) ρ σ H E ((b ρ4).bind fun q => match q with
        | (.nx, ρ2) => forL tg b (ds.drop (j + 1)) ρ2
        | (.ct, ρ2) => forL tg b (ds.drop (j + 1)) ρ2
        | (.bk, ρ2) => .ok (.nx, ρ2)
        | (.rt d, ρ2) => .ok (.rt d, ρ2)) := p2
      refine hg _ x ρ2 ρ4 σ2 H3 _ r3 y3 e fun σ4 H4 r4 f4 sb4 => ⟨ρ4, r4, ?_⟩
      have fa : Fr ρ σ H ρ4 σ4 H4 := f2.trans (f3.trans f4)
      have sa : SameBut (A ++ B) σ σ4 := fun i hi => (sb4 i fun z => hi (List.mem_append_left _ z)).trans (sb2 i hi)
      have s4 : S ρ4 σ4 H4 := I.stay _ _ _ _ _ _ (I.stay _ _ _ _ _ _ s2 r2 f3) r3 f4
      have tr : ∀ {σ5 : L2.St}, SameBut B σ4 σ5 → SameBut (A ++ B) σ σ5 := fun {σ5} z i hi => (z i fun y => hi (List.mem_append_right _ y)).trans (sa i hi)
      cases e2 : b ρ4 with
      | exc c w ρ' => rw [e2] at p2; exact fun σ' H' dd fs v a1 a2 a3 => p2 σ' H' dd fs v a1 (fa.trans a2) (tr a3)
      | stuck => rw [e2] at p2; exact p2
      | ok p5 =>
        rw [e2] at p2
        obtain ⟨o, ρ5⟩ := p5
        have again : ∀ σ5 H5, RE G ρ5 σ5 H5 → Fr ρ4 σ4 H4 ρ5 σ5 H5 → SameBut B σ4 σ5 → postS G W (A ++ B) ρ σ H E (forL tg b (ds.drop (j + 1)) ρ5) → ∃ m', m' < ds.length - j ∧ m' = ds.length - (j + 1) ∧ j + 1 ≤ ds.length ∧ ∃ ρ', RE G ρ' σ5 H5 ∧ Fr ρ σ H ρ' σ5 H5 ∧ SameBut (A ++ B) σ σ5 ∧ S ρ' σ5 H5 ∧ postS G W (A ++ B) ρ σ H E (forL tg b (ds.drop (j + 1)) ρ') :=
          fun σ5 H5 r5 f5 s5 p5 => ⟨_, by omega, rfl, c, ρ5, r5, fa.trans f5, tr s5, I.stay _ _ _ _ _ _ s4 r4 f5, p5⟩
        cases o with
        | nx => exact fun σ5 H5 r5 f5 s5 => again σ5 H5 r5 f5 s5 p2
        | ct => exact fun σ5 H5 r5 f5 s5 => again σ5 H5 r5 f5 s5 p2
        | bk => exact fun σ5 H5 r5 f5 s5 => p2 σ5 H5 r5 (fa.trans f5) (tr s5)
        | rt d => exact fun v σ5 H5 r5 f5 s5 z => p2 v σ5 H5 r5 (fa.trans f5) (tr s5) (z.ahead fa)
  · have ej : j = ds.length := by omega
    subst ej
    rw [List.drop_length] at p2
    exact .inl ⟨I.stop _ _ _ _ s2 (Nat.le_refl _), p2 σ2 H2 r2 f2 sb2⟩
def gN (i : Nat) : D → Env → R Env := fun d ρ => .ok (ρ.set i (some d))
theorem gok_name {G : GG} [NoSlot G] {i : Nat} : GOk G (Y1 G) (gName i) [i] (gN i) := by
  intro d x ρ ρ' σ H K r y e k
  cases e
  have rs : Res G ρ σ H ρ σ H d x := Res.of_rv y
  exact k _ H (r.setN rs i) (Fr.set r Fr.refl rs) same_set
theorem nex_name {i : Nat} : NoExc (gN i) := fun d ρ c w ρ' z => by cases z
def gNs : List Nat → List D → Env → R Env
  | [], [], ρ => .ok ρ
  | i :: is, d :: ds, ρ => gNs is ds (ρ.set i (some d))
  | _, _, _ => .stuck
def gTs : List Nat → TGs
  | [] => gNil
  | i :: is => gCons (gName i) (gTs is)
theorem gns_len : ∀ {is : List Nat} {ds : List D} {ρ ρ' : Env}, gNs is ds ρ = .ok ρ' → ds.length = is.length
  | [], [], _, _, _ => rfl
  | [], _ :: _, _, _, e => by cases e
  | _ :: _, [], _, _, e => by cases e
  | i :: is, d :: ds, ρ, ρ', e => congrArg Nat.succ (gns_len (is := is) (ds := ds) e)
theorem gok_names {G : GG} [NoSlot G] : ∀ {is : List Nat} {ds : List D} {vs : List V} {ρ ρ' : Env} {σ : L2.St} {H : Hp} {K : L2.St → Hp → Prop}, RE G ρ σ H → RVs G H ds vs → gNs is ds ρ = .ok ρ' →
    (∀ σ' H', RE G ρ' σ' H' → Fr ρ σ H ρ' σ' H' → SameBut is σ σ' → K σ' H') → gTs is vs σ H K
  | [], [], _, _, _, _, _, _, r, .nil, e, k => by
    cases e
    exact ⟨rfl, k _ _ r Fr.refl SameBut.refl⟩
  | [], _ :: _, _, _, _, _, _, _, _, _, e, _ => by cases e
  | _ :: _, [], _, _, _, _, _, _, _, _, e, _ => by cases e
  | i :: is, d :: ds, _, ρ, ρ', σ, H, K, r, .cons (v := v) (vs := vs) h t, e, k => by
    have rs : Res G ρ σ H ρ σ H d v := Res.of_rv h
    have r1 := r.setN rs i
    have f1 := Fr.set (i := i) r Fr.refl rs
    refine ⟨v, vs, rfl, ?_⟩
    show gTs is vs (σ.set i (some v)) H K
    refine gok_names r1 t e fun σ' H' r' f' s' => k σ' H' r' (f1.trans f') ?_
    exact fun j hj => (s' j fun z => hj (List.mem_cons_of_mem _ z)).trans (same_set j fun z => hj (by rw [List.mem_singleton.mp z]; exact List.mem_cons_self))
def gT (is : List Nat) : D → Env → R Env := fun d ρ => match d with
  | .tup ds => gNs is ds ρ
  | _ => .stuck
theorem gok_tup {G : GG} [NoSlot G] {is : List Nat} : GOk G (Y2 G) (gTup G.K is.length (gTs is)) is (gT is) := by
  intro d x ρ ρ' σ H K r y e k
  obtain ⟨ds, a, vs, rfl, rfl, sq, rv⟩ := y
  have e : gNs is ds ρ = .ok ρ' := e
  exact ⟨a, vs, rfl, sq, by rw [← rv.length]; exact gns_len e, gok_names r rv e k⟩
theorem nex_names : ∀ {is : List Nat} {ds : List D} {ρ ρ' : Env} {c : Nat} {w : D}, gNs is ds ρ ≠ .exc c w ρ'
  | [], [], _, _, _, _ => fun z => by cases z
  | [], _ :: _, _, _, _, _ => fun z => by cases z
  | _ :: _, [], _, _, _, _ => fun z => by cases z
  | i :: is, d :: ds, ρ, ρ', c, w => nex_names (is := is) (ds := ds)
theorem nex_tup {is : List Nat} : NoExc (gT is) := fun d ρ c w ρ' z => by
  cases d <;> first | cases z | exact nex_names z
end TV
namespace TV
open PySem PySem.Spec PyProof.Rows L2
abbrev MI := Env → R (List D × Env)
def postI (G : GG) (W : WX) (Y : YY) (ρ : Env) (σ : L2.St) (H : Hp) (Q : It → Hp → Prop) : R (List D × Env) → Prop
  | .ok (ds, ρ1) => ∀ J H1 S, RE G ρ1 σ H1 → Fr ρ σ H ρ1 σ H1 → ItIs G J Y ds S → S ρ1 σ H1 → Q J H1
  | .exc c w ρ' => wexc G W [] ρ σ H c w ρ'
  | .stuck => False
def rdI (G : GG) (W : WX) (Y : YY) (m : MI) : TI := fun σ H Q => ∃ ρ, RE G ρ σ H ∧ postI G W Y ρ σ H Q (m ρ)
theorem pi_wk {X : Cx} {tg e : Expr} {t t' : TI} (h : PI X tg e t) (f : ∀ σ H Q, t' σ H Q → t σ H Q) : PI X tg e t' := ⟨fun pins s σ H Q I q => h.run pins s σ H Q I (f σ H Q q)⟩
abbrev SI (X : Cx) (G : GG) (W : WX) (tg e : Expr) (Y : YY) (m : MI) : Prop := PI X tg e (rdI G W Y m)
def kFor (tg : D → Env → R Env) (b : MS) : List D × Env → R (Out × Env) := fun p => forL tg b p.1 p.2
def mFor (m : MI) (tg : D → Env → R Env) (b : MS) : MS := fun ρ => (m ρ).bind (kFor tg b)
theorem ss_for {X : Cx} {G : GG} [NoSlot G] {W : WX} {pos : Pos} {tg iter : Expr} {body : List Stmt} {Y : YY} {m : MI} {g : TG} {A B : List Nat} {gt : D → Env → R Env} {b : MS} (C : CT X G W) (hi : SI X G W tg iter Y m) (hg : PG X tg g) (ok : GOk G Y g A gt) (hn : NoExc gt) (hb : SSs X G W body B b)
    (hs : ∀ x, foldedSetIterable iter X.env x = pure x := by intro _; rfl) : SS X G W (.For tg iter body [] pos) (A ++ B) (mFor m gt b) :=
  ps_wk (ps_for C.po (C.calm (NoSlot.c (G := G))) hi hg hb hs) fun E σ H q => by
    obtain ⟨ρ, re, q⟩ := q
    refine ⟨ρ, re, ?_⟩
    have q : postS G W (A ++ B) ρ σ H E ((m ρ).bind (kFor gt b)) := q
    cases e : m ρ with
    | ok p =>
      rw [e] at q
      obtain ⟨ds, ρ1⟩ := p
      intro J H1 S r1 f1 I s1
      exact for_core I ok hn r1 f1 s1 q
    | exc c w ρ' => rw [e] at q; exact postS.wide (A := []) (E := E) (r := .exc c w ρ') q fun _ z => nomatch z
    | stuck => rw [e] at q; exact q
def iSeq (K : PySem.W.Frag) (tl : TE) : TI := fun σ H R => tl σ H fun x H1 => ∃ a, x = .ref a ∧ (((∃ xs, SqL K H1 a xs) ∧ R (Itl K a) H1) ∨ ((∃ xs, SqT K H1 a xs) ∧ R (Itt K a) H1))
theorem pi_seq {X : Cx} {tg l : Expr} {tl : TE} (hl : PE X l tl) : PI X tg l (iSeq X.K tl) := by
  refine ⟨fun pins s σ H R I h => ?_⟩
  refine thn (hl.run pins s σ H _ I h) fun v s1 ⟨x, H1, I1, r1, a, e, q1⟩ => ?_
  subst e
  cases r1
  rcases q1 with ⟨⟨xs, hq⟩, q⟩ | ⟨⟨xs, hq⟩, q⟩
  · obtain ⟨its, rv, p, hz⟩ := I1.list hq
    refine wpAny_pyIter_list p.isList ?_
    refine ⟨s1.heap.objs.size, [s1.heap.objs.size], _, _, H1, rfl, I1.kept (t' := s1.toks) fun b o e => Heap.get?_push_of_some _ e, turn_list a _, ⟨_, Heap.get?_push_size _ rfl, rfl, rfl⟩, fun b hb => ?_, q⟩
    cases List.mem_singleton.mp hb
    exact I1.fpOk (Nat.le_refl _) (I1.hok.fresh (Nat.le_refl _))
  · obtain ⟨its, rv, p, hz⟩ := I1.tuple hq
    refine wpAny_pyIter_tuple (show s1.heap.IsTuple a its.toArray from p) ?_
    refine ⟨s1.heap.objs.size, [s1.heap.objs.size], _, _, H1, rfl, I1.kept (t' := s1.toks) fun b o e => Heap.get?_push_of_some _ e, turn_tuple a _, ⟨_, Heap.get?_push_size _ rfl, rfl, rfl⟩, fun b hb => ?_, q⟩
    cases List.mem_singleton.mp hb
    exact I1.fpOk (Nat.le_refl _) (I1.hok.fresh (Nat.le_refl _))
def D.seq : D → Option (List D)
  | .tup ds => some ds
  | .frl ds => some ds
  | .lst ds => some ds
  | _ => none
def kSeqI (f : D → Option (List D)) : D × Env → R (List D × Env) := fun p => match f p.1 with
  | some ds => .ok (ds, p.2)
  | none => .stuck
def mI1 (m : ME) (f : D → Option (List D)) : MI := fun ρ => (m ρ).bind (kSeqI f)
def Sls (G : GG) (a : Addr) (vs : List V) (ds : List D) : Env → L2.St → Hp → Prop := fun ρ σ H => RVs G H ds vs ∧ (FrL G.K H a vs ∨ (H a = some (.lst vs) ∧ ¬ own ρ σ a))
def Slt (G : GG) (a : Addr) (vs : List V) (ds : List D) : Env → L2.St → Hp → Prop := fun _ _ H => RVs G H ds vs ∧ TupS G.K H a vs
theorem Sls.sql {G : GG} [NoSlot G] {a : Addr} {vs : List V} {ds : List D} {ρ : Env} {σ : L2.St} {H : Hp} (s : Sls G a vs ds ρ σ H) : SqL G.K H a vs := by
  rcases s.2 with h | ⟨h, _⟩
  · exact h.sql
  · exact SqL.of h
theorem Sls.stay {G : GG} [NoSlot G] {a : Addr} {vs : List V} {ds : List D} {ρ ρ' : Env} {σ σ' : L2.St} {H H' : Hp} (s : Sls G a vs ds ρ σ H) (re : RE G ρ σ H) (f : Fr ρ σ H ρ' σ' H') : Sls G a vs ds ρ' σ' H' := by
  refine ⟨s.1.mono (f.fix re), ?_⟩
  rcases s.2 with h | ⟨h, n⟩
  · exact .inl ((f.fix re).frl h)
  · exact .inr (f.ap h rfl n)
theorem Slt.stay {G : GG} [NoSlot G] {a : Addr} {vs : List V} {ds : List D} {ρ ρ' : Env} {σ σ' : L2.St} {H H' : Hp} (s : Slt G a vs ds ρ σ H) (re : RE G ρ σ H) (f : Fr ρ σ H ρ' σ' H') : Slt G a vs ds ρ' σ' H' :=
  ⟨s.1.mono (f.fix re), (f.fix re).tupS s.2⟩
theorem Sls.off {G : GG} [NoSlot G] {a b : Addr} {vs : List V} {ds : List D} {ρ ρ1 : Env} {σ σ1 : L2.St} {H H1 : Hp} {u o : HO} (s1 : Sls G a vs ds ρ1 σ1 H1) (hD : H1 b = none) (s : Sls G a vs ds ρ σ H) (hu : H b = some u) (fu : MutO u) : Sls G a vs ds ρ σ (upd H b o) := by
  have fx := fix_upd (o := o) hu fu
  refine ⟨s.1.mono fx, ?_⟩
  rcases s.2 with h | ⟨h, n⟩
  · exact .inl (fx.frl h)
  · rcases s1.2 with (⟨_, h1⟩ | h1) | ⟨h1, _⟩
    · refine .inr ⟨?_, n⟩
      rw [upd_ne (fun z => by subst z; rw [hD] at h1; cases h1)]
      exact h
    · exact .inl (.inr h1)
    · refine .inr ⟨?_, n⟩
      rw [upd_ne (fun z => by subst z; rw [hD] at h1; cases h1)]
      exact h
theorem Slt.off {G : GG} [NoSlot G] {a b : Addr} {vs : List V} {ds : List D} {ρ : Env} {σ : L2.St} {H : Hp} {u o : HO} (s : Slt G a vs ds ρ σ H) (hu : H b = some u) (fu : MutO u) : Slt G a vs ds ρ σ (upd H b o) :=
  have fx := fix_upd (o := o) hu fu
  ⟨s.1.mono fx, fx.tupS s.2⟩
theorem itis_l {G : GG} [NoSlot G] {a : Addr} {vs : List V} {ds : List D} : ItIs G (Itl G.K a) (Y1 G) ds (Sls G a vs ds) where
  stay := fun _ _ _ _ _ _ s re f => s.stay re f
  off := fun _ _ _ _ s1 h _ _ _ _ _ s hu fu => s1.off h s hu fu
  go := fun ρ σ H j s h => by
    obtain ⟨v, e, _⟩ := s.1.get (List.getElem?_eq_getElem h)
    exact ⟨vs, v, s.sql, e⟩
  stop := fun ρ σ H j s h => ⟨vs, s.sql, by rw [← s.1.length]; exact h⟩
  yld := fun ρ σ H j x H' d s re y e => by
    obtain ⟨rfl, y⟩ := y
    obtain ⟨v, e1, r⟩ := s.1.get e
    have := y vs s.sql
    rw [e1] at this
    cases this
    exact ⟨Same.refl _, r⟩
theorem itis_t {G : GG} [NoSlot G] {a : Addr} {vs : List V} {ds : List D} : ItIs G (Itt G.K a) (Y1 G) ds (Slt G a vs ds) where
  stay := fun _ _ _ _ _ _ s re f => s.stay re f
  off := fun _ _ _ _ _ _ _ _ _ _ _ s hu fu => s.off hu fu
  go := fun ρ σ H j s h => by
    obtain ⟨v, e, _⟩ := s.1.get (List.getElem?_eq_getElem h)
    exact ⟨vs, v, s.2.sqt, e⟩
  stop := fun ρ σ H j s h => ⟨vs, s.2.sqt, by rw [← s.1.length]; exact h⟩
  yld := fun ρ σ H j x H' d s re y e => by
    obtain ⟨rfl, y⟩ := y
    obtain ⟨v, e1, r⟩ := s.1.get e
    have := y vs s.2.sqt
    rw [e1] at this
    cases this
    exact ⟨Same.refl _, r⟩
theorem ItIs.apart {G : GG} [NoSlot G] {J : It} {ds : List D} {S : Env → L2.St → Hp → Prop} (h : ItIs G J (Y1 G) ds S) (t : ∀ d ∈ ds, ∃ es, d = .tup es) : ItIs G J (Y2 G) ds S where
  stay := h.stay
  off := h.off
  go := h.go
  stop := h.stop
  yld := fun ρ σ H j x H' d s re y e => by
    obtain ⟨sm, r⟩ := h.yld ρ σ H j x H' d s re y e
    obtain ⟨es, rfl⟩ := t d (List.mem_of_getElem? e)
    have r : RV G H' (.tup es) x := r
    obtain ⟨a, vs, rfl, ts, rv⟩ := (RV.rs r).tupOf
    exact ⟨sm, es, a, vs, rfl, rfl, ts.sqt, rv⟩
theorem rdSeqI {G : GG} [NoSlot G] {W : WX} {Y : YY} {m : ME} {f : D → Option (List D)} {σ : L2.St} {H : Hp} {R : It → Hp → Prop} (hf : ∀ d ds, f d = some ds → d.seq = some ds)
    (hl : ∀ ds d a vs, f d = some ds → ItIs G (Itl G.K a) (Y1 G) ds (Sls G a vs ds) → ItIs G (Itl G.K a) Y ds (Sls G a vs ds))
    (ht : ∀ ds d a vs, f d = some ds → ItIs G (Itt G.K a) (Y1 G) ds (Slt G a vs ds) → ItIs G (Itt G.K a) Y ds (Slt G a vs ds))
    (q : rdI G W Y (mI1 m f) σ H R) : iSeq G.K (rdE G W m) σ H R := by
  obtain ⟨ρ, re, q⟩ := q
  refine ⟨ρ, re, ?_⟩
  have q : postI G W Y ρ σ H R ((m ρ).bind (kSeqI f)) := q
  cases e : m ρ with
  | exc c w ρ' => rw [e] at q; exact q
  | stuck => rw [e] at q; exact q
  | ok p =>
    rw [e] at q
    obtain ⟨d, ρ1⟩ := p
    intro v H1 r1 f1 s
    have q : postI G W Y ρ σ H R (match f d with | some ds => .ok (ds, ρ1) | none => .stuck) := q
    cases e2 : f d with
    | none => rw [e2] at q; exact q.elim
    | some ds =>
      rw [e2] at q
      have q3 : ∀ J H1 S, RE G ρ1 σ H1 → Fr ρ σ H ρ1 σ H1 → ItIs G J Y ds S → S ρ1 σ H1 → R J H1 := q
      have e3 := hf _ _ e2
      cases d with
      | tup es =>
        cases e3
        obtain ⟨a, vs, rfl, ts, rv⟩ := s.1.tupOf
        exact ⟨a, rfl, .inr ⟨⟨vs, ts.sqt⟩, q3 _ H1 (Slt G a vs _) r1 f1 (ht _ _ a vs e2 itis_t) ⟨rv, ts⟩⟩⟩
      | frl es =>
        cases e3
        cases s.1.rv rfl with
        | frl h rv => exact ⟨_, rfl, .inl ⟨⟨_, h.sql⟩, q3 _ H1 (Sls G _ _ _) r1 f1 (hl _ _ _ _ e2 itis_l) ⟨rv, .inl h⟩⟩⟩
      | lst es =>
        cases e3
        obtain ⟨a, vs, rfl, h, rv⟩ := s.1
        exact ⟨a, rfl, .inl ⟨⟨vs, SqL.of h⟩, q3 _ H1 (Sls G a vs _) r1 f1 (hl _ _ a vs e2 itis_l) ⟨rv, .inr ⟨h, (s.2 a rfl rfl).1⟩⟩⟩⟩
      | _ => cases e3
section
variable {X : Cx} {G : GG} [NoSlot G] {W : WX} {tg e : Expr} {m : ME}
theorem si_seq (c : CT X G W) (h : SE X G W e m) : SI X G W tg e (Y1 G) (mI1 m D.seq) := pi_wk (pi_seq h) fun σ H R q => by
  rw [← c.k]
  exact rdSeqI (fun _ _ e => e) (fun _ _ _ _ _ i => i) (fun _ _ _ _ _ i => i) q
end
theorem tOs_mono {G : GG} [NoSlot G] {W : WX} : ∀ {os : List Opd} {σ : L2.St} {H : Hp} {K K' : List V → Hp → Prop}, tOs G W os σ H K → (∀ xs H1, K xs H1 → K' xs H1) → tOs G W os σ H K'
  | [], _, _, _, _, h, f => f _ _ h
  | _ :: os, _, _, _, _, h, f => tO_mono h fun _ _ _ q => tOs_mono (os := os) q fun _ _ z => f _ _ z
def kOI (os : List Opd) (f : List D → Option (List D)) : List (Option D) × Env → R (List D × Env) := fun p => match (rds os p.1 p.2).bind f with
  | some ds => .ok (ds, p.2)
  | none => .stuck
def mIO (os : List Opd) (f : List D → Option (List D)) : MI := fun ρ => (ev os ρ).bind (kOI os f)
theorem rdIO {G : GG} [NoSlot G] {W : WX} {Y : YY} {os : List Opd} {f : List D → Option (List D)} {σ : L2.St} {H : Hp} {R : It → Hp → Prop} (q : rdI G W Y (mIO os f) σ H R) :
    tOs G W os σ H fun vs H1 => ∃ ρ1 ds xs, RE G ρ1 σ H1 ∧ RSs G H1 xs vs ∧ f xs = some ds ∧ ∀ J S, ItIs G J Y ds S → S ρ1 σ H1 → R J H1 := by
  obtain ⟨ρ, re, q⟩ := q
  refine opds_run re ?_
  have q : postI G W Y ρ σ H R ((ev os ρ).bind (kOI os f)) := q
  cases e : ev os ρ with
  | ok p =>
    rw [e] at q
    obtain ⟨xs, ρ1⟩ := p
    intro vs H1 r1 f1 hq
    have q : postI G W Y ρ σ H R (match (rds os xs ρ1).bind f with | some ds => .ok (ds, ρ1) | none => .stuck) := q
    cases e2 : rds os xs ρ1 with
    | none => rw [e2] at q; exact q.elim
    | some ys =>
      rw [e2] at q
      have q : postI G W Y ρ σ H R (match f ys with | some ds => .ok (ds, ρ1) | none => .stuck) := q
      cases e3 : f ys with
      | none => rw [e3] at q; exact q.elim
      | some ds => rw [e3] at q; exact ⟨ρ1, ds, ys, r1, hq ys e2, e3, fun J S i s => q J H1 S r1 f1 i s⟩
  | exc c w ρ' => rw [e] at q; exact q
  | stuck => rw [e] at q; exact q
def dRng (lo : Int) (n : Nat) : List D := (List.range n).map fun i : Nat => .int (lo + i)
theorem itis_r {G : GG} [NoSlot G] {lo : Int} {n : Nat} : ItIs G (Itr lo n) (Y1 G) (dRng lo n) (fun _ _ _ => True) where
  stay := fun _ _ _ _ _ _ _ _ _ => trivial
  off := fun _ _ _ _ _ _ _ _ _ _ _ _ _ _ => trivial
  go := fun ρ σ H j s h => by
    unfold dRng at h
    rwa [List.length_map, List.length_range] at h
  stop := fun ρ σ H j s h => by
    unfold dRng at h
    rwa [List.length_map, List.length_range] at h
  yld := fun ρ σ H j x H' d s re y e => by
    obtain ⟨rfl, rfl⟩ := y
    unfold dRng at e
    rw [List.getElem?_map, Option.map_eq_some_iff] at e
    obtain ⟨i, e, rfl⟩ := e
    have hi : i = j := by
      by_cases h : j < n
      · rw [List.getElem?_range h] at e
        exact (Option.some.inj e).symm
      · rw [List.getElem?_eq_none (by rw [List.length_range]; omega)] at e
        cases e
    subst hi
    exact ⟨Same.refl _, .int _⟩
def dR1 : List D → Option (List D)
  | [.int j] => if -(2 ^ 62) ≤ j ∧ j < 2 ^ 62 then some (dRng 0 j.toNat) else none
  | _ => none
def dR2 : List D → Option (List D)
  | [.int i, .int j] => if -(2 ^ 62) ≤ i ∧ i < 2 ^ 62 ∧ -(2 ^ 62) ≤ j ∧ j < 2 ^ 62 then some (dRng i (j - i).toNat) else none
  | _ => none
section
variable {X : Cx} {G : GG} [NoSlot G] {W : WX} {tg a b : Expr} {oa ob : Opd} {p pos : Pos}
theorem si_range1 (hg : Gl X "range") (hm : X.mg "range" = none) (ha : SO X G W a oa) (hs : starEach [a] X.env = [(false, eval a X.env)] := by rfl) : SI X G W tg (.Call (.Name "range" p) [a] [] pos) (Y1 G) (mIO [oa] dR1) :=
  pi_wk (pi_range1 hg hm (so_cons ha so_nil hs) hs) fun σ H R q => tOs_mono (rdIO q) fun vs H1 ⟨ρ1, ds, xs, r1, rs, e, k⟩ => by
    unfold dR1 at e
    split at e
    · rename_i j
      split at e
      · rename_i c
        cases e
        cases rs with
        | cons h r =>
          cases r
          rw [h.intOf]
          exact ⟨j, rfl, c.1, c.2, k _ _ itis_r trivial⟩
      · cases e
    · cases e
theorem si_range2 (hg : Gl X "range") (hm : X.mg "range" = none) (ha : SO X G W a oa) (hb : SO X G W b ob) (hs : starEach [a, b] X.env = [(false, eval a X.env), (false, eval b X.env)] := by rfl) (hs2 : starEach [b] X.env = [(false, eval b X.env)] := by rfl) :
    SI X G W tg (.Call (.Name "range" p) [a, b] [] pos) (Y1 G) (mIO [oa, ob] dR2) :=
  pi_wk (pi_range2 hg hm (so_cons ha (so_cons hb so_nil hs2) (by rw [hs, hs2])) hs hs2) fun σ H R q => tOs_mono (rdIO q) fun vs H1 ⟨ρ1, ds, xs, r1, rs, e, k⟩ => by
    unfold dR2 at e
    split at e
    · rename_i i j
      split at e
      · rename_i c
        cases e
        cases rs with
        | cons h r =>
          cases r with
          | cons h2 r =>
            cases r
            rw [h.intOf, h2.intOf]
            exact ⟨i, j, rfl, c, k _ _ itis_r trivial⟩
      · cases e
    · cases e
end
end TV
namespace TV
open PySem PySem.Spec PyProof.Rows L2
abbrev WF : WX := fun _ _ _ _ => False
theorem takesF {X : Cx} : Takes X WF := fun _ _ x => by
  obtain ⟨_, _, _, _, _, _, _, _, _, _, _, _, _, _, _, _, z⟩ := x
  exact z.elim
theorem CT.blk {X : Cx} {G : GG} [NoSlot G] {W : WX} (C : CT X G W) {s : Shared} {H : Hp} {scope : Scope} {cenv : PySem.Env} {fp : List Addr} : CT (X.blk s H scope cenv fp) G WF :=
  ⟨C.k, C.calm, takesF, PassesOwn.never, C.nd, C.un, C.gd⟩
abbrev STs (X : Cx) (G : GG) (W : WX) (ifs : List Expr) (t : MT) : Prop := PTs X ifs (rdT G W t)
theorem pts_wk {X : Cx} {e : List Expr} {t t' : TT} (h : PTs X e t) (f : ∀ σ H Q, t' σ H Q → t σ H Q) : PTs X e t' := ⟨fun pins s σ H Q I q => h.run pins s σ H Q I (f σ H Q q)⟩
theorem sts_nil {X : Cx} {G : GG} [NoSlot G] {W : WX} : STs X G W [] mYes := pts_wk pts_nil fun σ H Q q => by
  obtain ⟨ρ, re, q⟩ := q
  exact q H re Fr.refl
theorem sts_one {X : Cx} {G : GG} [NoSlot G] {W : WX} {c : Expr} {t : MT} (h : ST X G W c t) : STs X G W [c] t := pts_one h
def wipeE (ρ : Env) : List Nat → Env
  | [] => ρ
  | v :: vs => (wipeE ρ vs).set v none
theorem wipeE_len (ρ : Env) : ∀ vs : List Nat, (wipeE ρ vs).length = ρ.length
  | [] => rfl
  | v :: vs => by unfold wipeE; rw [List.length_set, wipeE_len ρ vs]
theorem wipeE_some {ρ : Env} {i : Nat} {d : D} : ∀ {vs : List Nat}, (wipeE ρ vs)[i]? = some (some d) → ρ[i]? = some (some d) ∧ i ∉ vs
  | [], h => ⟨h, by simp⟩
  | v :: vs, h => by
    unfold wipeE at h
    by_cases hi : v = i
    · subst hi
      rw [List.getElem?_set] at h
      split at h
      · split at h <;> cases h
      · rename_i n
        exact absurd rfl n
    · rw [List.getElem?_set_ne hi] at h
      obtain ⟨h1, h2⟩ := wipeE_some h
      exact ⟨h1, by simp only [List.mem_cons, not_or]; exact ⟨fun e => hi e.symm, h2⟩⟩
theorem wipe_keep {σ : L2.St} {i : Nat} : ∀ {vs : List Nat}, i ∉ vs → (L2.wipe σ vs)[i]? = σ[i]?
  | [], _ => rfl
  | v :: vs, h => by
    unfold L2.wipe
    rw [List.getElem?_set_ne (fun e => h (by rw [e]; exact List.mem_cons_self)), wipe_keep fun z => h (List.mem_cons_of_mem _ z)]
theorem wipe_at {σ : L2.St} {i : Nat} : ∀ {vs : List Nat}, i ∈ vs → i < σ.length → (L2.wipe σ vs)[i]? = some none
  | v :: vs, h, l => by
    unfold L2.wipe
    rw [List.getElem?_set]
    by_cases e : v = i
    · rw [if_pos e, if_pos (by rw [L2.wipe_length, e]; exact l)]
    · rw [if_neg e]
      rcases List.mem_cons.mp h with z | z
      · exact absurd z.symm e
      · exact wipe_at z l
theorem wipe_eq {σ σ2 : L2.St} {A vs : List Nat} (s : SameBut A (L2.wipe σ vs) σ2) (h : ∀ i ∈ A, i ∈ vs) (l : σ2.length = σ.length) : L2.wipe σ2 vs = L2.wipe σ vs := by
  refine List.ext_getElem? fun i => ?_
  by_cases c : i ∈ vs
  · by_cases d : i < σ.length
    · rw [wipe_at c d, wipe_at c (by rw [l]; exact d)]
    · rw [List.getElem?_eq_none (by rw [L2.wipe_length]; omega), List.getElem?_eq_none (by rw [L2.wipe_length]; omega)]
  · rw [wipe_keep c, s i fun z => c (h i z)]
theorem RE.wipe {G : GG} [NoSlot G] {ρ : Env} {σ σ2 : L2.St} {H : Hp} {vs : List Nat} (r : RE G ρ σ2 H) (e : L2.wipe σ2 vs = L2.wipe σ vs) : RE G (wipeE ρ vs) σ H := by
  have l : σ2.length = σ.length := by rw [← L2.wipe_length σ2 vs, e, L2.wipe_length]
  have to : ∀ {i : Nat} {v : V}, i ∉ vs → (σ2[i]? = some (some v) ↔ σ[i]? = some (some v)) := fun {i v} n => by
    rw [← wipe_keep (σ := σ2) n, e, wipe_keep n]
  refine ⟨by rw [wipeE_len, r.len, l], fun i d h => ?_, fun i j d e a h1 h2 w1 w2 s1 s2 => ?_, r.pin, RE.noSpin⟩
  · obtain ⟨h1, h2⟩ := wipeE_some h
    obtain ⟨v, h3, h4⟩ := r.val i d h1
    exact ⟨v, (to h2).mp h3, h4⟩
  · obtain ⟨h1, n1⟩ := wipeE_some h1
    obtain ⟨h2, n2⟩ := wipeE_some h2
    exact r.sep i j d e a h1 h2 w1 w2 ((to n1).mpr s1) ((to n2).mpr s2)
theorem RE.wiped {G : GG} [NoSlot G] {ρ : Env} {σ : L2.St} {H : Hp} {vs : List Nat} (r : RE G (wipeE ρ vs) σ H) : RE G (wipeE ρ vs) (L2.wipe σ vs) H := by
  refine ⟨by rw [L2.wipe_length]; exact r.len, fun i d h => ?_, fun i j d e a h1 h2 w1 w2 s1 s2 => ?_, r.pin, RE.noSpin⟩
  · obtain ⟨v, h3, h4⟩ := r.val i d h
    exact ⟨v, by rw [wipe_keep (wipeE_some h).2]; exact h3, h4⟩
  · rw [wipe_keep (wipeE_some h1).2] at s1
    rw [wipe_keep (wipeE_some h2).2] at s2
    exact r.sep i j d e a h1 h2 w1 w2 s1 s2
theorem own_wiped {ρ : Env} {σ : L2.St} {vs : List Nat} {a : Addr} (h : own (wipeE ρ vs) (L2.wipe σ vs) a) : own (wipeE ρ vs) σ a := by
  obtain ⟨i, d, e1, e2, e3⟩ := h
  exact ⟨i, d, e1, e2, (L2.wipe_some e3).1⟩
theorem own_wipe {ρ : Env} {σ σ2 : L2.St} {vs : List Nat} {a : Addr} (e : L2.wipe σ2 vs = L2.wipe σ vs) (h : own (wipeE ρ vs) σ a) : own ρ σ2 a := by
  obtain ⟨i, d, e1, e2, e3⟩ := h
  obtain ⟨e1, n⟩ := wipeE_some e1
  exact ⟨i, d, e1, e2, by rw [← wipe_keep (σ := σ2) n, e, wipe_keep n]; exact e3⟩
theorem Fr.wipe {ρ ρ4 : Env} {σ σ2 : L2.St} {H H4 : Hp} {vs : List Nat} (f : Fr (wipeE ρ vs) (L2.wipe σ vs) H ρ4 σ2 H4) (e : L2.wipe σ2 vs = L2.wipe σ vs) : Fr (wipeE ρ vs) σ H (wipeE ρ4 vs) σ H4 := (f.from fun b z => own_wiped z).less fun b z => own_wipe e z
theorem own_wipe0 {ρ : Env} {σ : L2.St} {vs : List Nat} {a : Addr} (h : own (wipeE ρ vs) σ a) : own ρ σ a := own_wipe (σ := σ) (σ2 := σ) rfl h
theorem Fr.wipe0 {ρ : Env} {σ : L2.St} {H : Hp} {vs : List Nat} : Fr ρ σ H (wipeE ρ vs) σ H := Fr.refl.less fun b z => own_wipe0 z
theorem RE.other {G : GG} [NoSlot G] {ρ : Env} {σ : L2.St} {H : Hp} {a : Addr} {u o : HO} (r : RE G ρ σ H) (h : H a = some u) (f : MutO u) (n : ¬ own ρ σ a) : RE G ρ σ (upd H a o) :=
  ⟨r.len, fun i d e => by
    obtain ⟨v, e1, q⟩ := r.val i d e
    refine ⟨v, e1, q.keep (fix_upd h f) fun b x eb w hb _ => ?_⟩
    have : b ≠ a := fun z => by
      subst z
      exact n ⟨i, d, e, w, by rw [← eb]; exact e1⟩
    rw [upd_ne this]
    exact hb, r.sep, G.pinOk _ _ (fix_upd h f) r.pin, r.spin⟩
def LenK (tg : D → TV.Env → R TV.Env) : Prop := ∀ d ρ ρ', tg d ρ = .ok ρ' → ρ'.length = ρ.length
theorem lenk_name {i : Nat} : LenK (gN i) := fun d ρ ρ' e => by cases e; exact List.length_set ..
def lcL (vs : List Nat) (tg : D → TV.Env → R TV.Env) (t : MT) (e : ME) : List D → TV.Env → List D → R (D × TV.Env)
  | [], ρ, acc => .ok (.lst acc, ρ)
  | d :: ds, ρ, acc => match tg d ρ with
    | .ok ρ1 => match t ρ1 with
      | .ok (true, ρ2) => match e ρ2 with
        | .ok (y, ρ3) => if y.own = false ∧ acc.length < sizeLine then lcL vs tg t e ds (wipeE ρ3 vs) (acc ++ [y]) else .stuck
        | _ => .stuck
      | .ok (false, ρ2) => lcL vs tg t e ds (wipeE ρ2 vs) acc
      | _ => .stuck
    | _ => .stuck
def kLc (vs : List Nat) (tg : D → TV.Env → R TV.Env) (t : MT) (e : ME) : List D × TV.Env → R (D × TV.Env) := fun p => lcL vs tg t e p.1 (wipeE p.2 vs) []
def mLc (vs : List Nat) (m : MI) (tg : D → TV.Env → R TV.Env) (t : MT) (e : ME) : ME := fun ρ => (m ρ).bind (kLc vs tg t e)
theorem rdLc {G : GG} [NoSlot G] {W : WX} {Y : YY} {m : MI} {g : TG} {A vs : List Nat} {gt : D → TV.Env → R TV.Env} {t : MT} {e : ME} {σ : L2.St} {H : Hp} {Q : VK} (ok : GOk G Y g A gt) (hl : LenK gt) (hA : ∀ i ∈ A, i ∈ vs) (q : rdE G W (mLc vs m gt t e) σ H Q) :
    tLc (rdI G W Y m) g (rdT G WF t) (rdE G WF e) vs σ H Q := by
  obtain ⟨ρ, re, q⟩ := q
  refine ⟨ρ, re, ?_⟩
  have q : postE G W ρ σ H Q ((m ρ).bind (kLc vs gt t e)) := q
  cases em : m ρ with
  | exc c w ρ' => rw [em] at q; exact q
  | stuck => rw [em] at q; exact q
  | ok p =>
    rw [em] at q
    obtain ⟨ds, ρ1⟩ := p
    intro J H1 S r1 f1 I s1 D hD
    have q : postE G W ρ σ H Q (lcL vs gt t e ds (wipeE ρ1 vs) []) := q
    have hDH : H D = none ∨ own ρ σ D := by
      by_cases z : own ρ σ D
      · exact .inr z
      · cases y : H D with
        | none => exact .inl rfl
        | some o =>
          obtain ⟨⟨_, this⟩, _⟩ := f1.stays y z
          rw [hD] at this
          cases this
    -- the state at turn j
    let P : Nat → Hp → Prop := fun j H' => j ≤ ds.length ∧ ∃ ρx acc us, RE G (wipeE ρx vs) σ H' ∧ Fr ρ σ H (wipeE ρx vs) σ H' ∧ S (wipeE ρx vs) σ H' ∧ H' D = some (.lst us) ∧ RVs G H' acc us ∧ ¬ own (wipeE ρx vs) σ D ∧ postE G W ρ σ H Q (lcL vs gt t e (ds.drop j) (wipeE ρx vs) acc)
    have sm0 : Same H1 (upd H1 D (.lst [])) := fun b o hb => by
      have : b ≠ D := fun z => by
        subst z
        rw [hD] at hb
        cases hb
      rw [upd_ne this]
      exact hb
    have nD : ¬ own ρ1 σ D := fun z => by
      obtain ⟨u, hu, _⟩ := r1.there z
      rw [hD] at hu
      cases hu
    refine ⟨fun j mm H' => mm = ds.length - j ∧ P j H', ⟨_, rfl, Nat.zero_le _, ρ1, [], [], (r1.same sm0).wipe rfl, f1.trans ((Fr.same sm0).trans Fr.wipe0), I.stay _ _ _ _ _ _ (I.stay _ _ _ _ _ _ s1 r1 (Fr.same sm0)) (r1.same sm0) Fr.wipe0, upd_same, .nil, fun z => nD (own_wipe0 z), q⟩, ?_⟩
    rintro j mm H2 ⟨rfl, hj, ρ2, acc, us, r2, f2, s2, hd2, rv2, nD2, q2⟩
    by_cases c : j < ds.length
    · have e0 : ds[j]? = some ds[j] := List.getElem?_eq_getElem c
      rw [List.drop_eq_getElem_cons c] at q2
      refine .inr ⟨I.go _ _ _ j s2 c, fun H' => P (j + 1) H', fun H' z => ⟨_, by omega, rfl, z⟩, fun x H3 y => ?_⟩
      obtain ⟨sm, y3⟩ := I.yld _ _ _ j x H3 _ s2 r2 y e0
      have r3 := r2.same sm
      have f3 : Fr (wipeE ρ2 vs) σ H2 (wipeE ρ2 vs) σ H3 := Fr.same sm
      have s3 := I.stay _ _ _ _ _ _ s2 r2 f3
      have hd3 : H3 D = some (.lst us) := sm D _ hd2
      have rv3 : RVs G H3 acc us := rv2.mono (f3.fix r2)
      unfold lcL at q2
      cases eg : gt ds[j] (wipeE ρ2 vs) with
      | exc c w ρ' => rw [eg] at q2; exact q2.elim
      | stuck => rw [eg] at q2; exact q2.elim
      | ok ρ4 =>
        rw [eg] at q2
        have q2 : postE G W ρ σ H Q (match t ρ4 with
          | .ok (true, ρ2) => match e ρ2 with
            | .ok (y, ρ3) => if y.own = false ∧ acc.length < sizeLine then lcL vs gt t e (ds.drop (j + 1)) (wipeE ρ3 vs) (acc ++ [y]) else .stuck
            | _ => .stuck
          | .ok (false, ρ2) => lcL vs gt t e (ds.drop (j + 1)) (wipeE ρ2 vs) acc
          | _ => .stuck) := q2
        refine ok _ x _ ρ4 _ H3 _ r3.wiped y3 eg fun σ4 H4 r4 f4 sb4 => ?_
        have we : L2.wipe σ4 vs = L2.wipe σ vs := wipe_eq sb4 hA (by rw [← r4.len, hl _ _ _ eg, r2.len])
        refine ⟨we, ρ4, r4, ?_⟩
        -- what goes on from a state of the block
        have on : ∀ {ρ5 : TV.Env} {H5 : Hp}, RE G ρ5 σ4 H5 → Fr ρ4 σ4 H4 ρ5 σ4 H5 → Fr (wipeE ρ2 vs) σ H2 (wipeE ρ5 vs) σ H5 ∧ RE G (wipeE ρ5 vs) σ H5 ∧ ¬ own ρ5 σ4 D ∧ H5 D = some (.lst us) ∧ RVs G H5 acc us := fun {ρ5 H5} r5 f5 => by
          have g : Fr (wipeE ρ2 vs) (L2.wipe σ vs) H3 ρ5 σ4 H5 := f4.trans f5
          have w := g.ap hd3 rfl fun z => nD2 (own_wiped z)
          exact ⟨f3.trans (g.wipe we), r5.wipe we, w.2, w.1, rv3.mono (g.fix r3.wiped)⟩
        cases et : t ρ4 with
        | exc c w ρ' => rw [et] at q2; exact q2.elim
        | stuck => rw [et] at q2; exact q2.elim
        | ok pt =>
          rw [et] at q2
          obtain ⟨b, ρ5⟩ := pt
          intro H5 r5 f5
          cases b with
          | false =>
            rw [if_neg Bool.false_ne_true]
            obtain ⟨g1, g2, g3, g4, g5⟩ := on r5 f5
            exact ⟨c, ρ5, acc, us, g2, f2.trans g1, I.stay _ _ _ _ _ _ s2 r2 g1, g4, g5, fun z => g3 (own_wipe we z), q2⟩
          | true =>
            rw [if_pos rfl]
            refine ⟨ρ5, r5, ?_⟩
            have q2 : postE G W ρ σ H Q (match e ρ5 with
              | .ok (y, ρ3) => if y.own = false ∧ acc.length < sizeLine then lcL vs gt t e (ds.drop (j + 1)) (wipeE ρ3 vs) (acc ++ [y]) else .stuck
              | _ => .stuck) := q2
            cases ee : e ρ5 with
            | exc c w ρ' => rw [ee] at q2; exact q2.elim
            | stuck => rw [ee] at q2; exact q2.elim
            | ok pe =>
              rw [ee] at q2
              obtain ⟨yd, ρ6⟩ := pe
              have q2 : postE G W ρ σ H Q (if yd.own = false ∧ acc.length < sizeLine then lcL vs gt t e (ds.drop (j + 1)) (wipeE ρ6 vs) (acc ++ [yd]) else .stuck) := q2
              by_cases cy : yd.own = false ∧ acc.length < sizeLine
              · rw [if_pos cy] at q2
                intro v H6 r6 f6 z6
                obtain ⟨g1, g2, g3, g4, g5⟩ := on r6 (f5.trans f6)
                have hv : RV G H6 yd v := z6.1.rv cy.1
                refine ⟨us, g4, by rw [← g5.length]; exact cy.2, ?_⟩
                have fx : Fix H6 (upd H6 D (.lst (us ++ [v]))) := fix_upd g4 (.lst _)
                have nD6 : ¬ own (wipeE ρ6 vs) σ D := fun z => g3 (own_wipe we z)
                have fr6 : Fr (wipeE ρ2 vs) σ H2 (wipeE ρ6 vs) σ H6 := g1
                have f7 : Fr ρ σ H (wipeE ρ6 vs) σ (upd H6 D (.lst (us ++ [v]))) := (f2.trans g1).updD g4 (.lst _) hDH
                refine ⟨c, ρ6, acc ++ [yd], us ++ [v], g2.other g4 (.lst _) nD6, f7, I.off _ _ _ D s1 hD _ _ _ _ _ (I.stay _ _ _ _ _ _ s2 r2 g1) g4 (.lst _), upd_same, (g5.mono fx).app (.cons (hv.mono fx) .nil), nD6, q2⟩
              · rw [if_neg cy] at q2
                exact q2.elim
    · have ej : j = ds.length := by omega
      subst ej
      rw [List.drop_length] at q2
      refine .inl ⟨I.stop _ _ _ _ s2 (Nat.le_refl _), ?_⟩
      exact q2 (.ref D) H2 r2 f2 ⟨⟨D, us, rfl, hd2, rv2⟩, fun a ea _ => by cases ea; exact ⟨nD2, hDH⟩⟩
section
variable {X : Cx} {G : GG} [NoSlot G] {W : WX}
theorem se_lc {elt tg iter : Expr} {ifs : List Expr} {scope : Scope} {own : List (Str × Nat)} {pos : Pos} {Y : YY} {m : MI} {g : TG} {A : List Nat} {gt : D → TV.Env → R TV.Env} {t : MT} {e : ME} (C : CT X G W) (hi : SI X G W tg iter Y m) (bk : BlkOk X.N X.env.scope scope own)
    (ok : GOk G Y g A gt) (hl : LenK gt) (hA : ∀ i ∈ A, i ∈ own.map (·.2))
    (hg : ∀ (s : Shared) (H : Hp) (c : Addr) (cl : List (Str × Addr)) (fp : List Addr), PG (X.blk s H scope (compEnvC scope cl c X.env) fp) tg g)
    (ht : ∀ (s : Shared) (H : Hp) (c : Addr) (cl : List (Str × Addr)) (fp : List Addr), STs (X.blk s H scope (compEnvC scope cl c X.env) fp) G WF ifs t)
    (he : ∀ (s : Shared) (H : Hp) (c : Addr) (cl : List (Str × Addr)) (fp : List Addr), SE (X.blk s H scope (compEnvC scope cl c X.env) fp) G WF elt e) (hs : ∀ x, foldedSetIterable iter X.env x = pure x := by intro _; rfl) :
    SE X G W (.ListComp elt [⟨tg, iter, ifs, 0⟩] scope pos) (mLc (own.map (·.2)) m gt t e) := pe_wk (pe_lc (C.calm (NoSlot.c (G := G))) C.nd hi bk hg ht he hs) fun σ H Q q => rdLc ok hl hA q
theorem ss_setLc {i : Nat} {y : Str} {py : Pos} {elt tg iter : Expr} {ifs : List Expr} {scope : Scope} {own : List (Str × Nat)} {pos spos : Pos} {Y : YY} {m : MI} {g : TG} {A : List Nat} {gt : D → TV.Env → R TV.Env} {t : MT} {e : ME} (C : CT X G W) (hy : X.N[i]? = some y) (hyl : X.env.scope.names.lookup y = some .local)
    (hsw : swapsWith (.ListComp elt [⟨tg, iter, ifs, 0⟩] scope pos) (some (.Name y py)) spos.line X.env = pure true) (hi : SI X G W tg iter Y m) (bk : BlkOk X.N X.env.scope scope own)
    (ok : GOk G Y g A gt) (hl : LenK gt) (hA : ∀ i ∈ A, i ∈ own.map (·.2))
    (hg : ∀ (s : Shared) (H : Hp) (c : Addr) (cl : List (Str × Addr)) (fp : List Addr), PG (X.blk s H scope (compEnvC scope cl c X.env) fp) tg g)
    (ht : ∀ (s : Shared) (H : Hp) (c : Addr) (cl : List (Str × Addr)) (fp : List Addr), STs (X.blk s H scope (compEnvC scope cl c X.env) fp) G WF ifs t)
    (he : ∀ (s : Shared) (H : Hp) (c : Addr) (cl : List (Str × Addr)) (fp : List Addr), SE (X.blk s H scope (compEnvC scope cl c X.env) fp) G WF elt e) (hs : ∀ x, foldedSetIterable iter X.env x = pure x := by intro _; rfl) :
    SS X G W (.Assign [.Name y py] (.ListComp elt [⟨tg, iter, ifs, 0⟩] scope pos) spos) [i] (mDo (mLc (own.map (·.2)) m gt t e) (kSet i)) := ps_wk (ps_setLc (C.calm (NoSlot.c (G := G))) C.nd hy hyl hsw hi bk hg ht he hs) fun E σ H q => rdLc ok hl hA (rdES q fun ρ ρ1 d v H1 r1 fr rs z => z _ H1 (r1.setN rs i) (Fr.set r1 fr rs) same_set)
end
end TV
namespace TV
open PySem PySem.Spec PyProof.Rows L2
theorem Fr.set1 {ρ ρ1 : TV.Env} {σ σ1 : L2.St} {H H1 : Hp} {d : D} {v : V} {i : Nat} (l : ρ1.length = σ1.length) (f : Fr ρ σ H ρ1 σ1 H1) (q : ∀ a, v = .ref a → d.own = true → H a = none ∨ own ρ σ a) : Fr ρ σ H (ρ1.set i (some d)) (σ1.set i (some v)) H1 := f.more fun b z => by
  rcases own_set l z with ⟨e, w⟩ | z
  · exact .inr (q b e w)
  · exact .inl z
section
variable {X : Cx} {G : GG} [NoSlot G] {W : WX} {pos : Pos}
def kUnp (is : List Nat) : D × TV.Env → R (Out × TV.Env) := fun p => (gT is p.1 p.2).bind fun ρ => .ok (.nx, ρ)
theorem ss_unp {es : List Expr} {k : Nat} {tp : Pos} {e : Expr} {m : ME} {is : List Nat} (c : CT X G W) (he : SE X G W e m) (hg : PGs X es (gTs is))
    (hn : (assignEach es X.env).length = is.length := by rfl) (hst : (assignEach es X.env).findIdx? (·.1) = none := by rfl)
    (hs : swapsWithSole [.Tuple es k tp] e pos.line X.env = pure false := by rfl) (hw : swappedStores [.Tuple es k tp] e X.env = pure none := by rfl)
    (h1 : (assignEach [.Tuple es k tp] X.env).map (·.2) = [assign (.Tuple es k tp) X.env] := by rfl) : SS X G W (.Assign [.Tuple es k tp] e pos) is (mDo m (kUnp is)) :=
  ps_wk (ps_asg he (pg_tup (c.calm (NoSlot.c (G := G))) hg hn hst) hs hw h1) fun E σ H q => rdES q fun ρ ρ1 d v H1 r1 fr rs z => by
    have z : postS G W is ρ σ H E ((gT is d ρ1).bind fun ρ => .ok (.nx, ρ)) := z
    cases e2 : gT is d ρ1 with
    | exc c w ρ' => exact absurd e2 (nex_tup _ _ _ _ _)
    | stuck => rw [e2] at z; exact z.elim
    | ok ρ2 =>
      rw [e2] at z
      have z3 : ∀ σ' H', RE G ρ2 σ' H' → Fr ρ σ H ρ2 σ' H' → SameBut is σ σ' → E.nx σ' H' := z
      cases d with
      | tup ds =>
        obtain ⟨a, vs, rfl, ts, rv⟩ := rs.1.tupOf
        have ok := gok_tup (is := is) (G := G) (.tup ds) (.ref a) ρ1 ρ2 σ H1 E.nx r1 ⟨ds, a, vs, rfl, rfl, ts.sqt, rv⟩ e2 fun σ' H' r' f' s' => z3 σ' H' r' (fr.trans f') s'
        rw [← c.k]
        exact ok
      | _ => cases e2
def kPar2 (j : Nat) (n : ME) (i : Nat) : D × TV.Env → R (Out × TV.Env) := fun p => (n p.2).bind fun q => .ok (.nx, (q.2.set i (some p.1)).set j (some q.1))
def mPar (i j : Nat) (m n : ME) : MS := mDo m (kPar2 j n i)
theorem ss_par {i j : Nat} {x y : Str} {a b : Expr} {m n : ME} {px py pt : Pos} {kt k2 pt2} (c : CT X G W) (hi : X.N[i]? = some x) (hj : X.N[j]? = some y) (hij : i ≠ j)
    (hx : X.env.scope.names.lookup x = some .local) (hy : X.env.scope.names.lookup y = some .local) (ha : SE X G W a m) (hb : SE X G W b n)
    (hw : swappedStores [.Tuple [.Name x px, .Name y py] kt pt] (.Tuple [a, b] k2 pt2) X.env = pure (some [x, y]))
    (hs : swapsWithSole [.Tuple [.Name x px, .Name y py] kt pt] (.Tuple [a, b] k2 pt2) pos.line X.env = pure false := by rfl)
    (h1 : starEach [a, b] X.env = (false, eval a X.env) :: starEach [b] X.env := by rfl) (h2 : starEach [b] X.env = (false, eval b X.env) :: starEach [] X.env := by rfl) :
    SS X G W (.Assign [.Tuple [.Name x px, .Name y py] kt pt] (.Tuple [a, b] k2 pt2) pos) [i, j] (mPar i j m n) :=
  ps_wk (ps_par (c.calm (NoSlot.c (G := G))) c.nd hi hj hij hx hy (pa_cons ha (pa_cons hb pa_nil h2) h1) hw hs) fun E σ H q => rdES q fun ρ ρ1 d v H1 r1 fr rs z => by
    have z : postS G W [i, j] ρ σ H E ((n ρ1).bind fun q => .ok (.nx, (q.2.set i (some d)).set j (some q.1))) := z
    refine ⟨ρ1, r1, ?_⟩
    cases e2 : n ρ1 with
    | exc c w ρ' => rw [e2] at z; exact fun σ' H' dd fs v a1 a2 a3 => z σ' H' dd fs v a1 (fr.trans a2) (fun k _ => a3 k fun h => nomatch h)
    | stuck => rw [e2] at z; exact z.elim
    | ok p =>
      rw [e2] at z
      obtain ⟨d2, ρ2⟩ := p
      intro w H2 r2 f2 rs2
      have q1 := rs.later r1 f2
      refine ⟨v, w, rfl, ?_⟩
      have q2 : Res G ρ1 σ H1 (ρ2.set i (some d)) (σ.set i (some v)) H2 d2 w := ⟨rs2.1, fun a ea oa => ⟨fun o => ?_, (rs2.2 a ea oa).2⟩⟩
      · refine z _ H2 ((r2.setN q1 i).setN q2 j) ?_ fun k hk => ?_
        · have fa : Fr ρ σ H (ρ2.set i (some d)) (σ.set i (some v)) H2 := Fr.set r2 (fr.trans f2) q1
          exact Fr.set1 (r2.setN q1 i).len fa fun a ea oa => ((rs2.ahead fr).2 a ea oa).2
        · rw [List.getElem?_set_ne (fun z => hk (by rw [z]; exact List.mem_cons_of_mem _ List.mem_cons_self)), List.getElem?_set_ne (fun z => hk (by rw [z]; exact List.mem_cons_self))]
      · rcases own_set r2.len o with ⟨ev, ow⟩ | o
        · subst ea
          cases ev
          rcases (rs2.2 a rfl oa).2 with k | k
          · obtain ⟨a', u, e1, e3, _⟩ := rs.1.at ow
            cases e1
            rw [k] at e3
            cases e3
          · exact (rs.2 a rfl ow).1 k
        · exact (rs2.2 a ea oa).1 o
def kSet2 (i j : Nat) : D × TV.Env → R (Out × TV.Env) := fun p => if p.1.own = true then .stuck else .ok (.nx, (p.2.set i (some p.1)).set j (some p.1))
end
def kSto (i : Nat) (oi : Opd) (f : D → D → D → Option D) : D × TV.Env → R (Out × TV.Env) := fun p => (ev [oi] p.2).bind fun q => match q.2[i]?, rds [oi] q.1 q.2 with
  | some (some x), some [k] => match f x k p.1 with
    | some y => .ok (.nx, q.2.set i (some y))
    | none => .stuck
  | _, _ => .stuck
def mSto (i : Nat) (m : ME) (oi : Opd) (f : D → D → D → Option D) : MS := fun ρ => match ρ[i]? with
  | some (some _) => (m ρ).bind (kSto i oi f)
  | _ => .stuck
def StoR (G : GG) (r : V → V → V → Hp → (Hp → Prop) → Prop) (f : D → D → D → Option D) : Prop := ∀ (H : Hp) (x k v : V) (dx dk d y : D) (Q : Hp → Prop), RS G H dx x → RS G H dk k → RS G H d v → f dx dk d = some y →
  (∀ a u o, x = .ref a → H a = some u → MutO u → dx.own = true → y.own = true → d.own = false → RS G (upd H a o) y x → Q (upd H a o)) → r x k v H Q
theorem rdSto {i : Nat} {m : ME} {oi : Opd} {f : D → D → D → Option D} {r : V → V → V → Hp → (Hp → Prop) → Prop} {G : GG} [NoSlot G] {W : WX} {A : List Nat} {E : Ends} {σ : L2.St} {H : Hp} (hr : StoR G r f) (q : rdS G W A (mSto i m oi f) E σ H) :
    rdE G W m σ H fun v H1 => tVar i σ H1 fun x H2 => tO G W oi σ H2 fun k H3 => r x k v H3 fun H4 => E.nx σ H4 := by
  obtain ⟨ρ, re, q⟩ := q
  unfold mSto at q
  split at q
  case h_2 => exact q.elim
  rename_i d0 e0
  obtain ⟨x0, s0, _⟩ := re.val i _ e0
  refine ⟨ρ, re, ?_⟩
  cases em : m ρ with
  | exc c w ρ' => rw [em] at q; exact fun σ' H' dd fs v a1 a2 a3 => q σ' H' dd fs v a1 a2 (fun k _ => a3 k fun h => nomatch h)
  | stuck => rw [em] at q; exact q.elim
  | ok p =>
    rw [em] at q
    obtain ⟨d, ρ1⟩ := p
    intro v H1 r1 f1 rs1
    have q : postS G W A ρ σ H E ((ev [oi] ρ1).bind fun q => match q.2[i]?, rds [oi] q.1 q.2 with
      | some (some x), some [k] => match f x k d with
        | some y => .ok (.nx, q.2.set i (some y))
        | none => .stuck
      | _, _ => .stuck) := q
    refine ⟨x0, s0, ?_⟩
    have k := opds_run (W := W) (os := [oi]) (σ := σ) (H := H1) (Q := fun vs H3 => ∃ k, vs = [k] ∧ r x0 k v H3 fun H4 => E.nx σ H4) r1 ?_
    · exact tO_mono k fun x H3 _ ⟨k, e, z⟩ => by cases e; exact z
    · cases e2 : ev [oi] ρ1 with
      | exc c w ρ' => rw [e2] at q; exact fun σ' H' dd fs v a1 a2 a3 => q σ' H' dd fs v a1 (f1.trans a2) (fun k _ => a3 k fun h => nomatch h)
      | stuck => rw [e2] at q; exact q.elim
      | ok p2 =>
        rw [e2] at q
        obtain ⟨ks, ρ2⟩ := p2
        intro us H3 r3 f3 hq
        have q : postS G W A ρ σ H E (match ρ2[i]?, rds [oi] ks ρ2 with
          | some (some x), some [k] => match f x k d with
            | some y => .ok (.nx, ρ2.set i (some y))
            | none => .stuck
          | _, _ => .stuck) := q
        split at q
        case h_2 => exact q.elim
        rename_i dx dk e3 e4
        split at q
        case h_2 => exact q.elim
        rename_i y e5
        have z := hq _ e4
        cases z with
        | cons zk zr =>
          cases zr
          obtain ⟨x1, s1, rsx⟩ := r3.val i _ e3
          rw [s0] at s1
          cases s1
          refine ⟨_, rfl, hr H3 x0 _ v dx dk d y _ rsx zk (rs1.later r1 f3).1 e5 fun a u o ex hu fu wx wy wd rsy => ?_⟩
          subst ex
          exact q σ _ (r3.put e3 wx s0 hu fu wy rsy) ((f1.trans f3).trans (Fr.put e3 wx s0 hu fu)) SameBut.refl
def fSetL : D → D → D → Option D
  | .lst xs, .int k, d => match ixN xs.length k with
    | some j => if d.own = false then some (.lst (xs.set j d)) else none
    | none => none
  | _, _, _ => none
theorem sto_list {G : GG} [NoSlot G] : StoR G rSetL fSetL := by
  intro H x k v dx dk d y Q h1 h2 h3 ef q
  unfold fSetL at ef
  split at ef
  · rename_i xs n
    split at ef
    · rename_i j hj
      split at ef
      · rename_i o
        cases ef
        obtain ⟨a, vs, rfl, ha, rv⟩ := h1
        rw [h2.intOf]
        have fx : Fix H (upd H a (.lst (vs.set j v))) := fix_upd ha (.lst _)
        exact ⟨a, vs, n, j, rfl, rfl, ha, by rw [← rv.length]; exact hj, q a _ _ rfl ha (.lst _) rfl rfl o ⟨a, vs.set j v, rfl, upd_same, (rv.set (h3.rv o) j).mono fx⟩⟩
      · cases ef
    · cases ef
  · cases ef
end TV
namespace TV
open PySem PySem.Spec PyProof.Rows L2
def dKey : D → Option Key
  | .int i => some (.inl i)
  | .str x => some (.inr x)
  | _ => none
theorem RS.key {G : GG} [NoSlot G] {H : Hp} {d : D} {v : V} {k : Key} (h : RS G H d v) (e : dKey d = some k) : v = L2.kV k := by
  cases d with
  | int i => cases e; exact h.intOf
  | str x => cases e; exact h.strOf
  | _ => cases e
def dGetK (ks : List Key) (ds : List D) (k : Key) : Option D := ((ks.zip ds).find? fun p => decide (p.1 = k)).map (·.2)
theorem getK_ok {G : GG} [NoSlot G] {H : Hp} {k : Key} : ∀ {ks : List Key} {ds : List D} {us : List V}, RVs G H ds us → (∀ d, dGetK ks ds k = some d → ∃ u, valV (ks.zip us) k = some u ∧ RV G H d u) ∧ (dGetK ks ds k = none → valV (ks.zip us) k = none)
  | [], _, _, _ => ⟨(fun d e => by cases e), fun _ => rfl⟩
  | _ :: _, _, _, .nil => ⟨(fun d e => by cases e), fun _ => rfl⟩
  | x :: ks, _, _, .cons (d := d0) (ds := ds) (v := v) (vs := vs) h r => by
    have ih := getK_ok (k := k) (ks := ks) r
    unfold dGetK valV
    rw [List.zip_cons_cons, List.zip_cons_cons, List.find?_cons, List.find?_cons]
    by_cases c : x = k
    · simp only [c, decide_true]
      exact ⟨(fun d e => by cases e; exact ⟨v, rfl, h⟩), (fun e => by cases e)⟩
    · simp only [c, decide_false]
      exact ih
theorem RS.frdOf {G : GG} {H : Hp} {ks : List Key} {ds : List D} {v : V} (h : RS G H (.frd ks ds) v) : ∃ a vs, v = .ref a ∧ (∃ o, H a = some (.frz o (.dK (ks.zip vs)))) ∧ ks.length = ds.length ∧ RVs G H ds vs := by
  cases (h : RV G H (.frd ks ds) v) with
  | frd h l r => exact ⟨_, _, rfl, h, l, r⟩
section
variable {X : Cx} {G : GG} [NoSlot G] {W : WX} {pos pos' : Pos} {a b e : Expr} {oa ob oi : Opd} {m : ME}
theorem ss_lput {i : Nat} {x : Str} {p : Pos} (ho : PE X (.Name x p) (tVar i)) (hi : SO X G W a oi) (hv : SE X G W e m)
    (ha : ∀ v, assign (.Subscript (.Name x p) a pos') X.env v = (do
      let ov ← holding [v] (eval (.Name x p) X.env)
      let iv ← holding [v, ov] (eval a X.env)
      standAt pos'
      holding [v, ov, iv] (setItem ov iv v)
      release [v, ov, iv] []) := by intro _; rfl)
    (hs : swapsWithSole [.Subscript (.Name x p) a pos'] e pos.line X.env = pure false := by rfl) (hw : swappedStores [.Subscript (.Name x p) a pos'] e X.env = pure none := by rfl)
    (h1 : (assignEach [.Subscript (.Name x p) a pos'] X.env).map (·.2) = [assign (.Subscript (.Name x p) a pos') X.env] := by rfl) :
    SS X G W (.Assign [.Subscript (.Name x p) a pos'] e pos) [] (mSto i m oi fSetL) := ps_wk (ps_asg hv (pg_sub ho hi set_list ha) hs hw h1) fun E σ H q => rdSto sto_list q
def mDicNew : ME := fun ρ => .ok (.dic [] [], ρ)
def rDIn (neg : Bool) : R2 := fun y x H Q => ∃ a o, x = .ref a ∧ DGet H a y o ∧ Q (.bl (if neg then !o.isSome else o.isSome)) H
theorem op_dIn (hu : X.A.units + 1 < cLine) : OpR X (compareOp .In) (rDIn false) := by
  rintro pins s σ H y x v u Q I ry rx ⟨a, o, rfl, g, q⟩
  cases rx
  exact d_in hu I g ry fun s3 I3 => ⟨.bl o.isSome, H, I3, rfl, q⟩
def dInD (neg : Bool) : D → List Key → List D → Option D := fun dk ks ds => (dKey dk).map fun k => .bl (if neg then !(dGetK ks ds k).isSome else (dGetK ks ds k).isSome)
def dInA (neg : Bool) : List D → Option D
  | [dk, .dic ks ds] => dInD neg dk ks ds
  | [dk, .frd ks ds] => dInD neg dk ks ds
  | l => dInF neg l
theorem v2_inA {neg : Bool} : V2 G (fun x y H Q => rIn G.K neg x y H Q ∨ rDIn neg x y H Q) (dInA neg) := by
  intro H x y d e z Q h1 h2 ef g
  by_cases c : ∃ ks ds, e = .dic ks ds
  · obtain ⟨ks, ds, rfl⟩ := c
    have ef : (dKey d).map (fun k => D.bl (if neg then !(dGetK ks ds k).isSome else (dGetK ks ds k).isSome)) = some z := ef
    rw [Option.map_eq_some_iff] at ef
    obtain ⟨k, hk, rfl⟩ := ef
    obtain ⟨a, us, rfl, ha, ln, rv⟩ := h2
    rw [h1.key hk]
    refine .inr ⟨a, valV (ks.zip us) k, rfl, DGet.k ha, ?_⟩
    have w := getK_ok (k := k) (ks := ks) rv
    have : (valV (ks.zip us) k).isSome = (dGetK ks ds k).isSome := by
      cases q : dGetK ks ds k with
      | none => rw [w.2 q]; rfl
      | some d => obtain ⟨u, hu, _⟩ := w.1 d q; rw [hu]; rfl
    rw [this]
    exact g.val (.bl _)
  · by_cases c2 : ∃ ks ds, e = .frd ks ds
    · obtain ⟨ks, ds, rfl⟩ := c2
      have ef : (dKey d).map (fun k => D.bl (if neg then !(dGetK ks ds k).isSome else (dGetK ks ds k).isSome)) = some z := ef
      rw [Option.map_eq_some_iff] at ef
      obtain ⟨k, hk, rfl⟩ := ef
      obtain ⟨a, us, rfl, ⟨o, ha⟩, ln, rv⟩ := h2.frdOf
      rw [h1.key hk]
      refine .inr ⟨a, valV (ks.zip us) k, rfl, .inl ⟨_, k, .inr ⟨o, ha⟩, rfl, rfl⟩, ?_⟩
      have w := getK_ok (k := k) (ks := ks) rv
      have : (valV (ks.zip us) k).isSome = (dGetK ks ds k).isSome := by
        cases q : dGetK ks ds k with
        | none => rw [w.2 q]; rfl
        | some d => obtain ⟨u, hu, _⟩ := w.1 d q; rw [hu]; rfl
      rw [this]
      exact g.val (.bl _)
    · have ef : dInF neg [d, e] = some z := by
        cases e <;> first | exact ef | exact absurd ⟨_, _, rfl⟩ c | exact absurd ⟨_, _, rfl⟩ c2
      exact .inl (v2_in H x y d e z Q h1 h2 ef g)
theorem st_inA (c : CT X G W) (ha : SO X G W a oa) (hb : SO X G W b ob) (hm : behindInMarks .In b = false := by rfl) : ST X G W (.Compare a [.In] [b] pos) (mB (mOp [oa, ob] (dInA false))) := st_cmp (by rw [c.k]; exact op_in_seq.or (op_dIn (by have := c.un; omega))) v2_inA ha hb hm
theorem se_inA (c : CT X G W) (ha : SO X G W a oa) (hb : SO X G W b ob) (hm : behindInMarks .In b = false := by rfl) : SE X G W (.Compare a [.In] [b] pos) (mOp [oa, ob] (dInA false)) := se_cmp (by rw [c.k]; exact op_in_seq.or (op_dIn (by have := c.un; omega))) v2_inA ha hb hm
end
end TV
namespace TV
open PySem PySem.Spec PyProof.Rows L2
def cutD (xs : List D) (lo hi : Option Int) : List D := (xs.drop (HT.sIx xs.length 0 lo)).take (HT.sIx xs.length xs.length hi - HT.sIx xs.length 0 lo)
theorem RVs.cut {G : GG} [NoSlot G] {H : Hp} {ds : List D} {vs : List V} (r : RVs G H ds vs) (lo hi : Option Int) : RVs G H (cutD ds lo hi) (cutV vs lo hi) := by
  unfold cutD cutV
  rw [r.length]
  exact (r.drop _).take _
def dCut (lo hi : Option Int) : D → Option D
  | .tup ds => some (.tup (cutD ds lo hi))
  | .lst ds => some (.lst (cutD ds lo hi))
  | .frl ds => some (.lst (cutD ds lo hi))
  | _ => none
abbrev rSlA (K : PySem.W.Frag) : V → Option Int → Option Int → Hp → VK → Prop := fun x lo hi H Q => rSlF K x lo hi H Q ∨ rSlL K x lo hi H Q
theorem cut_ok {G : GG} [NoSlot G] {lo hi : Option Int} : V1 G (fun x H Q => rSlA G.K x lo hi H Q) (fun l => match l with | [d] => dCut lo hi d | _ => none) := by
  intro H x d z Q h ef g
  have ef : dCut lo hi d = some z := ef
  cases d with
  | tup ds =>
    cases ef
    obtain ⟨a, vs, rfl, s, r⟩ := h.tupOf
    refine .inl ⟨a, vs, rfl, s.sqt, fun w => ?_, g.tup (r.cut lo hi)⟩
    have e : cutD ds lo hi = ds := by
      unfold cutD
      rw [r.length, w.1, w.2, List.drop_zero, Nat.sub_zero, ← r.length, List.take_length]
    rw [e] at g
    exact g.val (.tup s r)
  | lst ds =>
    cases ef
    obtain ⟨a, vs, rfl, s, r⟩ := h.lstOf
    exact .inr ⟨a, vs, rfl, SqL.of s, g.lst (r.cut lo hi)⟩
  | frl ds =>
    cases ef
    obtain ⟨a, vs, rfl, s, r⟩ := h.frlOf
    exact .inr ⟨a, vs, rfl, s, g.lst (r.cut lo hi)⟩
  | _ => cases ef
def pInt : D → Bool
  | .int _ => true
  | _ => false
def dSl01 : List D → Option D
  | [d, .int i] => dCut none (some i) d
  | _ => none
section
variable {X : Cx} {G : GG} [NoSlot G] {W : WX} {pos p2 : Pos} {e a b : Expr} {oe oa ob : Opd}
theorem sl_all : SlR X (rSlA X.K) := sl_tupF.or sl_list
theorem se_sl01 (c : CT X G W) (he : SO X G W e oe) (hb : SO X G W b ob) : SE X G W (.Subscript e (.Slice none (some b) none p2) pos) (mOp [oe, ob] dSl01) :=
  pe_wk (pe_slice sl_all he po_none (po_some hb)) fun σ H Q q => by
    rw [← c.k]
    have k := mOp_rd (r := fun vs H Q => ∃ x i, vs = [x, .int i] ∧ rSlA G.K x none (some i) H Q) (fun H vs ds z Q ln rs ef g => by
        unfold dSl01 at ef
        split at ef
        · cases rs with
          | cons r1 rs =>
            cases rs with
            | cons r2 rs =>
              cases rs
              rw [r2.intOf]
              exact ⟨_, _, rfl, cut_ok H _ _ _ Q r1 ef g⟩
        · cases ef) q
    refine tO_mono k fun x H1 _ k => tO_mono k fun y H2 m k => ?_
    obtain ⟨x', i', e, k⟩ := k
    cases e
    exact ⟨_, rfl, k⟩
end
end TV
namespace TV
open PySem PySem.Spec PyProof.Rows L2
theorem RE.nil {G : GG} [NoSlot G] {H : Hp} (p : G.pin H) : RE G [] [] H := ⟨rfl, (fun i d e => by cases e), (fun i j d e a h => by cases h), p, RE.noSpin⟩
theorem RE.cons {G : GG} [NoSlot G] {ρ : Env} {σ : L2.St} {H : Hp} {d : D} {v : V} (r : RE G ρ σ H) (h : RS G H d v) (n : ∀ a, v = .ref a → d.own = true → ¬ own ρ σ a) : RE G (some d :: ρ) (some v :: σ) H := by
  refine ⟨congrArg Nat.succ r.len, fun i x e => ?_, fun i j x y a e1 e2 o1 o2 s1 s2 => ?_, r.pin, RE.noSpin⟩
  · cases i with
    | zero => cases e; exact ⟨v, rfl, h⟩
    | succ i => exact r.val i x e
  · cases i with
    | zero =>
      cases j with
      | zero => rfl
      | succ j => cases e1; cases s1; exact absurd ⟨j, y, e2, o2, s2⟩ (n a rfl o1)
    | succ i =>
      cases j with
      | zero => cases e2; cases s2; exact absurd ⟨i, x, e1, o1, s1⟩ (n a rfl o2)
      | succ j => exact congrArg Nat.succ (r.sep i j x y a e1 e2 o1 o2 s1 s2)
theorem RE.tail {G : GG} [NoSlot G] {ρ : Env} {σ : L2.St} {H : Hp} {d : Option D} {v : Option V} (r : RE G (d :: ρ) (v :: σ) H) : RE G ρ σ H :=
  ⟨Nat.succ.inj r.len, fun i x e => r.val (i + 1) x e, fun i j x y a e1 e2 o1 o2 s1 s2 => Nat.succ.inj (r.sep (i + 1) (j + 1) x y a e1 e2 o1 o2 s1 s2), r.pin, RE.noSpin⟩
theorem own_cons {ρ : Env} {σ : L2.St} {d : Option D} {v : Option V} {a : Addr} (h : own (d :: ρ) (v :: σ) a) : (∃ x, d = some x ∧ x.own = true ∧ v = some (.ref a)) ∨ own ρ σ a := by
  obtain ⟨i, x, e1, e2, e3⟩ := h
  cases i with
  | zero => cases e1; cases e3; exact .inl ⟨x, rfl, e2, rfl⟩
  | succ i => exact .inr ⟨i, x, e1, e2, e3⟩
theorem own_tail {ρ : Env} {σ : L2.St} {d : Option D} {v : Option V} {a : Addr} (h : own ρ σ a) : own (d :: ρ) (v :: σ) a := by
  obtain ⟨i, x, e1, e2, e3⟩ := h
  exact ⟨i + 1, x, e1, e2, e3⟩
theorem own_nil {a : Addr} : ¬ own [] [] a := by
  rintro ⟨i, x, e, _⟩
  cases e
def tA : List Opd → List (Option D) → List V → List Addr
  | .var _ _ :: os, _ :: xs, _ :: vs => tA os xs vs
  | .tmp _ _ :: os, some d :: xs, .ref a :: vs => if d.own = true then a :: tA os xs vs else tA os xs vs
  | .tmp _ _ :: os, _ :: xs, _ :: vs => tA os xs vs
  | _, _, _ => []
inductive AR (G : GG) (ρ : Env) (σ : L2.St) (H : Hp) (ρ' : Env) (H' : Hp) : List Opd → List (Option D) → List V → Prop
  | nil : AR G ρ σ H ρ' H' [] [] []
  | var {i : Nat} {p : D → Bool} {v : V} {os : List Opd} {xs : List (Option D)} {vs : List V} (s : σ[i]? = some (some v)) (r : AR G ρ σ H ρ' H' os xs vs) : AR G ρ σ H ρ' H' (.var i p :: os) (none :: xs) (v :: vs)
  | tmp {m : ME} {p : D → Bool} {d : D} {v : V} {os : List Opd} {xs : List (Option D)} {vs : List V} (q : Res G ρ σ H ρ' σ H' d v) (n : ∀ a, v = .ref a → d.own = true → a ∉ tA os xs vs) (r : AR G ρ σ H ρ' H' os xs vs) : AR G ρ σ H ρ' H' (.tmp m p :: os) (some d :: xs) (v :: vs)
theorem AR.ahead {G : GG} [NoSlot G] {ρ ρ1 ρ' : Env} {σ : L2.St} {H H1 H' : Hp} (f : Fr ρ σ H ρ1 σ H1) : ∀ {os : List Opd} {xs : List (Option D)} {vs : List V}, AR G ρ1 σ H1 ρ' H' os xs vs → AR G ρ σ H ρ' H' os xs vs
  | _, _, _, .nil => .nil
  | _, _, _, .var s r => .var s (r.ahead f)
  | _, _, _, .tmp q n r => .tmp (q.ahead f) n (r.ahead f)
theorem AR.tA {G : GG} [NoSlot G] {ρ ρ' : Env} {σ : L2.St} {H H' : Hp} : ∀ {os : List Opd} {xs : List (Option D)} {vs : List V}, AR G ρ σ H ρ' H' os xs vs → ∀ a, a ∈ TV.tA os xs vs → ¬ own ρ' σ a ∧ (H a = none ∨ own ρ σ a) ∧ ∃ o, H' a = some o
  | _, _, _, .nil, a, h => by cases h
  | _, _, _, .var s r, a, h => r.tA a h
  | _, _, _, .tmp (d := d) (v := v) q n r, a, h => by
    cases v with
    | ref b =>
      unfold TV.tA at h
      split at h
      · rename_i o
        rcases List.mem_cons.mp h with z | z
        · subst z
          obtain ⟨b, u, e, e2, _⟩ := q.1.at o
          cases e
          exact ⟨(q.2 _ rfl o).1, (q.2 _ rfl o).2, u, e2⟩
        · exact r.tA a z
      · exact r.tA a h
    | _ => exact r.tA a h
def postA (G : GG) (W : WX) (os : List Opd) (ρ : Env) (σ : L2.St) (H : Hp) (Q : List V → Hp → Prop) : R (List (Option D) × Env) → Prop
  | .ok (xs, ρ') => ∀ vs H', RE G ρ' σ H' → Fr ρ σ H ρ' σ H' → AR G ρ σ H ρ' H' os xs vs → Q vs H'
  | .exc c w ρ' => wexc G W [] ρ σ H c w ρ'
  | .stuck => False
theorem args_run {G : GG} [NoSlot G] {W : WX} {σ : L2.St} : ∀ {os : List Opd} {ρ : Env} {H : Hp} {Q : List V → Hp → Prop}, RE G ρ σ H → postA G W os ρ σ H Q (ev os ρ) → tOs G W os σ H Q
  | [], ρ, H, Q, r, h => h [] H r Fr.refl .nil
  | .var i p :: os, ρ, H, Q, r, h => by
    unfold ev at h
    split at h
    case h_2 => exact h.elim
    rename_i d0 e0
    unfold chk at h
    split at h
    case isFalse => exact h.elim
    rename_i hp
    obtain ⟨v, e, rs0⟩ := r.val i d0 e0
    refine ⟨v, e, ⟨d0, hp, rs0⟩, args_run (os := os) (ρ := ρ) r ?_⟩
    cases z : ev os ρ with
    | ok q =>
      rw [z] at h
      obtain ⟨xs, ρ'⟩ := q
      intro vs H' r' f q
      exact h (v :: vs) H' r' f (.var e q)
    | exc c w ρ' => rw [z] at h; exact h
    | stuck => rw [z] at h; exact h
  | .tmp m p :: os, ρ, H, Q, r, h => by
    refine ⟨ρ, r, ?_⟩
    unfold ev at h
    cases z : m ρ with
    | ok q =>
      rw [z] at h
      obtain ⟨d, ρ1⟩ := q
      have h : postA G W (.tmp m p :: os) ρ σ H Q (chk (p d) ((ev os ρ1).bind fun r => .ok (some d :: r.1, r.2))) := h
      unfold chk at h
      split at h
      case isFalse => exact h.elim
      rename_i hp
      intro v H1 r1 f1 q1
      refine ⟨⟨d, hp, q1.1⟩, args_run (os := os) (ρ := ρ1) r1 ?_⟩
      cases y : ev os ρ1 with
      | ok q =>
        rw [y] at h
        obtain ⟨xs, ρ2⟩ := q
        intro vs H2 r2 f2 q2
        refine h (v :: vs) H2 r2 (f1.trans f2) (.tmp (q1.later r1 f2) (fun a ea oa ha => ?_) (q2.ahead f1))
        obtain ⟨b, u, e, e2, _⟩ := q1.1.at oa
        rw [ea] at e
        cases e
        rcases (q2.tA a ha).2.1 with k | k
        · rw [e2] at k; cases k
        · exact (q1.2 a ea oa).1 k
      | exc c w ρ' => rw [y] at h; exact wexc.later (A := []) (B := []) h f1 SameBut.refl
      | stuck => rw [y] at h; exact h
    | exc c w ρ' => rw [z] at h; exact h
    | stuck => rw [z] at h; exact h
def takeA : List Opd → List (Option D) → Env → Option (List D × Env)
  | [], [], ρ => some ([], ρ)
  | .var i _ :: os, _ :: xs, ρ => match ρ[i]? with
    | some (some d) => (takeA os xs (if d.own then ρ.set i none else ρ)).map fun p => (d :: p.1, p.2)
    | _ => none
  | .tmp _ _ :: os, some d :: xs, ρ => (takeA os xs ρ).map fun p => (d :: p.1, p.2)
  | _, _, _ => none
structure Taken (G : GG) (ρ : Env) (σ : L2.St) (H : Hp) (L : List Addr) (ds : List D) (vs : List V) (ρ2 : Env) : Prop where
  re : RE G ρ2 σ H
  args : RE G (ds.map some) (vs.map some) H
  sub : ∀ a, own ρ2 σ a → own ρ σ a
  from_ : ∀ a, own (ds.map some) (vs.map some) a → (own ρ σ a ∧ ¬ own ρ2 σ a) ∨ a ∈ L
theorem take_ok {G : GG} [NoSlot G] {ρ0 ρ' : Env} {σ : L2.St} {H H' : Hp} : ∀ {os : List Opd} {xs : List (Option D)} {vs : List V} {ρ ρ2 : Env} {ds : List D}, AR G ρ0 σ H ρ' H' os xs vs → RE G ρ σ H' → (∀ a, own ρ σ a → own ρ' σ a) → takeA os xs ρ = some (ds, ρ2) → Taken G ρ σ H' (tA os xs vs) ds vs ρ2
  | _, _, _, ρ, ρ2, ds, .nil, re, sub, e => by
    cases e
    exact ⟨re, RE.nil re.pin, fun a h => h, fun a h => absurd h own_nil⟩
  | _, _, _, ρ, ρ2, ds, .var (i := i) (v := v) (os := os) (xs := xs) (vs := vs) s r, re, sub, e => by
    unfold takeA at e
    split at e
    · rename_i d e0
      rw [Option.map_eq_some_iff] at e
      obtain ⟨⟨ds', ρ3⟩, e1, e2⟩ := e
      cases e2
      obtain ⟨v', s', rsd⟩ := re.val i d e0
      rw [s] at s'
      cases s'
      by_cases o : d.own = true
      · rw [if_pos o] at e1
        have T := take_ok r (re.drop i) (fun a h => sub a (own_drop h)) e1
        refine ⟨T.re, T.args.cons rsd fun a ea _ h => ?_, fun a h => own_drop (T.sub a h), fun a h => ?_⟩
        · subst ea
          rcases T.from_ a h with ⟨k, _⟩ | k
          · exact own_dropped re e0 o s k
          · exact (r.tA a k).1 (sub a ⟨i, d, e0, o, s⟩)
        · rcases own_cons h with ⟨x, ex, ox, ev⟩ | h
          · cases ex; cases ev
            exact .inl ⟨⟨i, d, e0, o, s⟩, fun k => own_dropped re e0 o s (T.sub a k)⟩
          · rcases T.from_ a h with ⟨k1, k2⟩ | k
            · exact .inl ⟨own_drop k1, k2⟩
            · exact .inr k
      · rw [if_neg o] at e1
        have T := take_ok r re sub e1
        refine ⟨T.re, T.args.cons rsd fun a ea oo => absurd oo o, T.sub, fun a h => ?_⟩
        rcases own_cons h with ⟨x, ex, ox, ev⟩ | h
        · cases ex
          exact absurd ox o
        · exact T.from_ a h
    · cases e
  | _, _, _, ρ, ρ2, ds, .tmp (d := d) (v := v) (os := os) (xs := xs) (vs := vs) q n r, re, sub, e => by
    unfold takeA at e
    rw [Option.map_eq_some_iff] at e
    obtain ⟨⟨ds', ρ3⟩, e1, e2⟩ := e
    cases e2
    have T := take_ok r re sub e1
    have up : ∀ a, a ∈ tA os xs vs → a ∈ tA (.tmp ‹ME› ‹D → Bool› :: os) (some d :: xs) (v :: vs) := fun a h => by
      cases v with
      | ref b =>
        unfold tA
        split
        · exact List.mem_cons_of_mem _ h
        · exact h
      | _ => exact h
    refine ⟨T.re, T.args.cons q.1 fun a ea oa h => ?_, T.sub, fun a h => ?_⟩
    · rcases T.from_ a h with ⟨k, _⟩ | k
      · exact (q.2 a ea oa).1 (sub a k)
      · exact n a ea oa k
    · rcases own_cons h with ⟨x, ex, ox, ev⟩ | h
      · cases ex; cases ev
        refine .inr ?_
        unfold tA
        rw [if_pos ox]
        exact List.mem_cons_self
      · rcases T.from_ a h with k | k
        · exact .inl k
        · exact .inr (up a k)
end TV
namespace TV
open PySem PySem.Spec PyProof.Rows L2
abbrev FV := Env → R (D × Env)
def postF (G : GG) (τ : Env) (σ : L2.St) (H : Hp) (Q : VK) (E : XK) : R (D × Env) → Prop
  | .ok (d, τ') => ∀ v H', RE G τ' σ H' → Fr τ σ H τ' σ H' → Res G τ σ H τ' σ H' d v → Q v H'
  | .exc c w τ' => ∀ (H' : Hp) (dd : Addr) (fs : List (Str × V)) (v : V), RE G τ' σ H' → Fr τ σ H τ' σ H' → H' dd = some (.xd fs) → fs.lookup ("what" : Str) = some v → RV G H' w v → E (.ref (G.cl c)) (some dd) H'
  | .stuck => False
def spV (G : GG) (n : Nat) (F : FV) : Sp := fun vs H Q E => vs.length = n ∧ ∃ τ, RE G τ (vs.map some) H ∧ postF G τ (vs.map some) H Q E (F τ)
def spV0 (G : GG) (n : Nat) (F : FV) : Sp := fun vs H Q _ => spV G n F vs H Q E0
def outE (A : List Nat) (n : Nat) (ρ : Env) : Env := (List.range n).map fun i => if A.contains i = true then none else (ρ[i]?).join
def padE (N : Nat) (τ : Env) : Env := τ ++ List.replicate (N - τ.length) none
def kBody (A : List Nat) (n : Nat) : Out × Env → R (D × Env)
  | (.rt d, ρ) => .ok (d, outE A n ρ)
  | (.nx, ρ) => .ok (.non, outE A n ρ)
  | _ => .stuck
def fDef (A : List Nat) (n : Nat) : R (Out × Env) → R (D × Env)
  | .ok p => kBody A n p
  | .exc c w ρ => .exc c w (outE A n ρ)
  | .stuck => .stuck
def mDef (N n : Nat) (A : List Nat) (m : MS) : FV := fun τ => fDef A n (m (padE N τ))
abbrev WD (E : XK) : WX := fun cls d _ H => E cls d H
theorem outE_get {A : List Nat} {d : D} {n : Nat} {ρ : Env} {i : Nat} (h : (outE A n ρ)[i]? = some (some d)) : ρ[i]? = some (some d) ∧ i ∉ A := by
  unfold outE at h
  rw [List.getElem?_map, Option.map_eq_some_iff] at h
  obtain ⟨k, e, h⟩ := h
  have hk : k = i := by
    by_cases c : i < n
    · rw [List.getElem?_range c] at e
      exact (Option.some.inj e).symm
    · rw [List.getElem?_eq_none (by rw [List.length_range]; omega)] at e
      cases e
  subst hk
  split at h
  · cases h
  · rename_i c
    refine ⟨?_, fun z => c (List.contains_iff_mem.mpr z)⟩
    cases q : ρ[k]? with
    | none => rw [q] at h; cases h
    | some o => rw [q] at h; cases o with
      | none => cases h
      | some d' => cases h; rfl
theorem outE_len {A : List Nat} {n : Nat} {ρ : Env} : (outE A n ρ).length = n := by
  unfold outE
  rw [List.length_map, List.length_range]
theorem padE_get {N : Nat} {τ : Env} {i : Nat} {d : D} (h : (padE N τ)[i]? = some (some d)) : τ[i]? = some (some d) := by
  unfold padE at h
  by_cases c : i < τ.length
  · rwa [List.getElem?_append_left c] at h
  · rw [List.getElem?_append_right (by omega), List.getElem?_replicate] at h
    split at h <;> cases h
theorem start_get {N : List Str} {vs : List V} {i : Nat} {v : V} : (L2.start N vs)[i]? = some (some v) ↔ (vs.map some)[i]? = some (some v) := by
  unfold L2.start
  by_cases c : i < (vs.map some).length
  · rw [List.getElem?_append_left c]
  · rw [List.getElem?_append_right (by omega), List.getElem?_replicate]
    constructor
    · intro h; split at h <;> cases h
    · intro h
      rw [List.getElem?_eq_none (by omega)] at h
      cases h
theorem RE.pad {G : GG} [NoSlot G] {τ : Env} {vs : List V} {H : Hp} {N : List Str} (r : RE G τ (vs.map some) H) : RE G (padE N.length τ) (L2.start N vs) H := by
  have hl := r.len
  rw [List.length_map] at hl
  refine ⟨?_, fun i d e => ?_, fun i j d e a h1 h2 o1 o2 s1 s2 => r.sep i j d e a (padE_get h1) (padE_get h2) o1 o2 (start_get.mp s1) (start_get.mp s2), r.pin, RE.noSpin⟩
  · unfold padE L2.start
    rw [List.length_append, List.length_append, List.length_map, List.length_replicate, List.length_replicate, hl]
  · obtain ⟨v, e1, q⟩ := r.val i d (padE_get e)
    exact ⟨v, start_get.mpr e1, q⟩
theorem own_pad {τ : Env} {vs : List V} {N : List Str} {a : Addr} (h : own (padE N.length τ) (L2.start N vs) a) : own τ (vs.map some) a := by
  obtain ⟨i, d, e1, e2, e3⟩ := h
  exact ⟨i, d, padE_get e1, e2, start_get.mp e3⟩
theorem post_body {G : GG} [NoSlot G] {N : List Str} {n : Nat} {A : List Nat} {r : R (Out × Env)} {vs : List V} {τ : Env} {H : Hp} {Q : VK} {E : XK} (re : RE G τ (vs.map some) H) (hl : vs.length = n) (q : postF G τ (vs.map some) H Q E (fDef A n r)) :
    postS G (WD E) A (padE N.length τ) (L2.start N vs) H { nx := fun _ H' => Q .non H', rt := Q } r := by
  have fin : ∀ {ρ' : Env} {σ' : L2.St} {H' : Hp}, RE G ρ' σ' H' → Fr (padE N.length τ) (L2.start N vs) H ρ' σ' H' → SameBut A (L2.start N vs) σ' →
      RE G (outE A n ρ') (vs.map some) H' ∧ (∀ a, own (outE A n ρ') (vs.map some) a → own ρ' σ' a) ∧ Fr τ (vs.map some) H (outE A n ρ') (vs.map some) H' := fun {ρ' σ' H'} r' f' s' => by
    have get : ∀ {i : Nat} {d : D}, (outE A n ρ')[i]? = some (some d) → ρ'[i]? = some (some d) ∧ i ∉ A := fun {i d} e => outE_get e
    have sl : ∀ {i : Nat} {v : V}, i ∉ A → (σ'[i]? = some (some v) ↔ (vs.map some)[i]? = some (some v)) := fun {i v} ni => by rw [s' i ni]; exact start_get
    have ow : ∀ a, own (outE A n ρ') (vs.map some) a → own ρ' σ' a := fun a ⟨i, d, e1, e2, e3⟩ => by
      obtain ⟨g1, g2⟩ := get e1
      exact ⟨i, d, g1, e2, (sl g2).mpr e3⟩
    refine ⟨⟨?_, fun i d e => ?_, fun i j d e a h1 h2 o1 o2 s1 s2 => ?_, r'.pin, RE.noSpin⟩, ow, (f'.from fun b z => own_pad z).less ow⟩
    · rw [outE_len, List.length_map, hl]
    · obtain ⟨g1, g2⟩ := get e
      obtain ⟨v, e1, rs⟩ := r'.val i d g1
      exact ⟨v, (sl g2).mp e1, rs⟩
    · obtain ⟨g1, g2⟩ := get h1
      obtain ⟨g3, g4⟩ := get h2
      exact r'.sep i j d e a g1 g3 o1 o2 ((sl g2).mpr s1) ((sl g4).mpr s2)
  cases r with
  | exc c w ρ' =>
    intro σ' H' dd fs v r' f' s' e1 e2 rv
    obtain ⟨g1, _, g3⟩ := fin r' f' s'
    exact q H' dd fs v g1 g3 e1 e2 rv
  | stuck => exact q.elim
  | ok p =>
    obtain ⟨o, ρ'⟩ := p
    cases o with
    | nx =>
      intro σ' H' r' f' s'
      obtain ⟨g1, _, g3⟩ := fin r' f' s'
      exact q .non H' g1 g3 (Res.of_rv .non)
    | rt d =>
      intro v σ' H' r' f' s' z
      obtain ⟨g1, g2, g3⟩ := fin r' f' s'
      refine q v H' g1 g3 ⟨z.1, fun a ea oa => ⟨fun k => (z.2 a ea oa).1 (g2 a k), ?_⟩⟩
      exact (z.2 a ea oa).2.imp id own_pad
    | bk => exact q.elim
    | ct => exact q.elim
theorem body_ok {G : GG} [NoSlot G] {X : Cx} {N : List Str} {n : Nat} {A : List Nat} {m : MS} {body : List Stmt} {vs : List V} {H : Hp} {Q : VK} {E : XK} (h : SSs X G (WD E) body A m) (hsp : spV G n (mDef N.length n A m) vs H Q E) (hn : n ≤ N.length) :
    ∃ t, PSs X body t ∧ t { nx := fun _ H' => Q .non H', rt := Q } (L2.start N vs) H := by
  obtain ⟨hl, τ, re, q⟩ := hsp
  exact ⟨_, h, padE N.length τ, re.pad, post_body re hl q⟩
end TV
namespace TV
open PySem PySem.Spec PyProof.Rows L2
structure Room (k : Nat) (A : Around) : Prop where
  lo : L2.Room k A
  gd : A.guards = some []
section
variable {j k : Nat} {A : Around}
theorem Room.hd (r : Room k A) : A.handled = none := r.lo.hd
theorem Room.dp (r : Room k A) : A.depth + 3 * k + 5 < recursionLimit := r.lo.dp
theorem Room.un (r : Room k A) : A.units + 16 * k + 200 < cLine := r.lo.un
theorem Room.mono (r : Room k A) (h : j ≤ k) : Room j A := ⟨r.lo.mono h, r.gd⟩
theorem Room.deeper (r : Room (k + 1) A) (e : PySem.Env) : Room k (A.deeper e) := ⟨r.lo.deeper e, r.gd⟩
theorem Room.in1 (r : Room (k + 1) A) : Room k A.in1 := ⟨r.lo.in1, r.gd⟩
theorem Room.depth (r : Room k A) : A.depth < recursionLimit := r.lo.depth
theorem Room.units (r : Room k A) : A.units + 64 < cLine := r.lo.units
end
structure FnOk (P : Program) (w : World) (K : PySem.W.Frag) (mg : Str → Option Value) (base : Heap) (T : CXT) (k : Nat) (f : Addr) (fd : FuncData) (ps : List Str) (sp : Sp) : Prop where
  len : ∀ vs H Q E, sp vs H Q E → vs.length = ps.length
  run : ∀ (A : Around) (out : List PySem.Env) (s : Shared) (H : Hp) (ar : Args) (us : List Value) (vs : List V) (Q : VK) (E : XK), Room k A → Env0 P w K mg base A out s H → BindsTo s fd ar (ps.zip us) → Vals vs us → sp vs H Q E → codeAny (model P w) A (.call (.ref f) ar) (CR T out P w H s Q E) s
section
variable {P : Program} {w : World} {K : PySem.W.Frag} {mg : Str → Option Value} {base : Heap} {T : CXT} {j k : Nat} {f : Addr} {fd : FuncData} {ps : List Str} {sp sp' : Sp}
theorem FnOk.mono (F : FnOk P w K mg base T j f fd ps sp) (h : j ≤ k) : FnOk P w K mg base T k f fd ps sp :=
  ⟨F.len, fun A out s H ar us vs Q E r => F.run A out s H ar us vs Q E (r.mono h)⟩
theorem FnOk.imp (F : FnOk P w K mg base T k f fd ps sp) (h : ∀ vs H Q E, sp' vs H Q E → sp vs H Q E) : FnOk P w K mg base T k f fd ps sp' :=
  ⟨fun vs H Q E z => F.len vs H Q E (h _ _ _ _ z), fun A out s H ar us vs Q E r e b v z => F.run A out s H ar us vs Q E r e b v (h _ _ _ _ z)⟩
theorem ok_of {name qual : Str} {pr : Arguments} {body : List Stmt} {sc : Scope} {dV kV doc pm cdv ct oc : Value} {an od : Option Addr} {osl : Array (Option Value)} {N : List Str}
    (lk : K.lookup f = some ⟨oc, od, .func (PySem.W.fnOf name qual pr body sc dV kV doc pm an cdv ct), osl⟩) (cd : PySem.W.codeIn K cdv qual = true) (S : FnScope N ps sc) (len : ∀ vs H Q E, sp vs H Q E → vs.length = ps.length)
    (hb : ∀ (A : Around) (out : List PySem.Env) (s : Shared) (H : Hp) (vs : List V) (Q : VK) (E : XK), Room k (A.deeper (envOfC qual sc s.heap.objs.size f cdv)) → sp vs H Q E →
      ∃ t, PSs (cxOf T P w K mg base N qual sc f cdv A out s H E) body t ∧ t { nx := fun _ h' => Q .non h', rt := Q } (L2.start N vs) H) :
    FnOk P w K mg base T (k + 1) f (PySem.W.fnOf name qual pr body sc dV kV doc pm an cdv ct) ps sp := by
  exact ⟨len, fun A out s H ar us vs Q E room e0 bnd rel hsp => LamX.run_ofS lk cd S room.lo e0 bnd rel (len vs H Q E hsp) fun lo => hb A out s H vs Q E ⟨lo, room.gd⟩ hsp⟩
end
section
variable {P : Program} {w : World} {K : PySem.W.Frag} {mg : Str → Option Value} {base : Heap} {k : Nat} {f : Addr} {fd : FuncData} {N ps : List Str} {sp : Sp} {x qual : Str} {st : Stmt}
theorem okN (F : Fun K x qual st f fd) (S : FnScope N ps (defScope st)) (len : ∀ vs H Q E, sp vs H Q E → vs.length = ps.length)
    (h : ∀ (cdv : Value) (A : Around) (out : List PySem.Env) (s : Shared) (H : Hp) (vs : List V) (Q : VK) (E : XK), Room k (A.deeper (envOfC qual (defScope st) s.heap.objs.size f cdv)) → sp vs H Q E →
      ∃ t, PSs (cxOf CX0 P w K mg base N qual (defScope st) f cdv A out s H E).nox (defBody st) t ∧ t { nx := fun _ h' => Q .non h', rt := Q } (L2.start N vs) H) : FnOk P w K mg base CX0 (k + 1) f fd ps sp := by
  obtain ⟨oc, od, kV, doc, pm, an, cdv, ct, osl, rfl, lk, hc⟩ := F.ex
  exact ok_of lk hc S len fun A out s H vs Q E r z => (h cdv A out s H vs Q E r z).imp fun t y => ⟨y.1.nox, y.2⟩
theorem okX (F : Fun K x qual st f fd) (S : FnScope N ps (defScope st)) (len : ∀ vs H Q E, sp vs H Q E → vs.length = ps.length)
    (h : ∀ (cdv : Value) (A : Around) (out : List PySem.Env) (s : Shared) (H : Hp) (vs : List V) (Q : VK) (E : XK), Room k (A.deeper (envOfC qual (defScope st) s.heap.objs.size f cdv)) → sp vs H Q E →
      ∃ t, PSs (cxOf (L2.CX P w) P w K mg base N qual (defScope st) f cdv A out s H E) (defBody st) t ∧ t { nx := fun _ h' => Q .non h', rt := Q } (L2.start N vs) H) : FnOk P w K mg base (L2.CX P w) (k + 1) f fd ps sp := by
  obtain ⟨oc, od, kV, doc, pm, an, cdv, ct, osl, rfl, lk, hc⟩ := F.ex
  exact ok_of lk hc S len fun A out s H vs Q E r z => h cdv A out s H vs Q E r z
theorem okD {pr : Arguments} {body : List Stmt} {sc : Scope} {dvs : List V} {kws : List (Str × V)} {T : CXT} (F : FunD K x qual pr body sc dvs kws f fd) (S : FnScope N ps sc) (len : ∀ vs H Q E, sp vs H Q E → vs.length = ps.length)
    (h : ∀ (cdv : Value) (A : Around) (out : List PySem.Env) (s : Shared) (H : Hp) (vs : List V) (Q : VK) (E : XK), Room k (A.deeper (envOfC qual sc s.heap.objs.size f cdv)) → sp vs H Q E →
      ∃ t, PSs (cxOf T P w K mg base N qual sc f cdv A out s H E) body t ∧ t { nx := fun _ h' => Q .non h', rt := Q } (L2.start N vs) H) : FnOk P w K mg base T (k + 1) f fd ps sp := by
  obtain ⟨oc, od, dV, kV, doc, pm, an, cdv, ct, osl, rfl, lk, hc, _, _⟩ := F.ex
  exact ok_of lk hc S len fun A out s H vs Q E r z => h cdv A out s H vs Q E r z
end
section
variable {X : Cx} {T : CXT} {k n i : Nat} {f C : Addr} {fd : FuncData} {ps ks : List Str} {sp : Sp} {x : Str} {p pos : Pos} {e : Expr} {es : List Expr} {kws : List Keyword} {t tk : TA}
theorem run_fnS {E : L2.St → XK} {pins : List (Addr × Obj)} {σ : L2.St} {H : Hp} {s : Shared} {Q : VK} {us : List Value} {vs : List V} (F : FnOk X.prog X.w X.K X.mg X.base T k f fd ps sp) (hr : Room k X.A) (hb : Binds X.K fd ps []) (hx : PassesAt T X σ (E σ))
    (I : Inv X pins σ H s) (r : Vals vs us) (h : sp vs H Q (E σ)) : wpAny (model X.prog X.w) X.A (call (.ref f) us) (EP X pins σ Q) X.xe s := by
  have b := hb s us I.kIn (by rw [List.append_nil, ← r.length]; exact F.len _ _ _ _ h)
  rw [List.append_nil] at b
  exact wpAny_call (codeAny_mono (F.run X.A X.stack s H ⟨us, []⟩ us vs Q (E σ) hr I.env0 b r h) fun q s' z => match q, z with
    | .error e, z => hx pins H s e s' I z
    | .ok (.ret _), z => I.after z
    | .ok .next, z => z.elim
    | .ok .brk, z => z.elim
    | .ok .cont, z => z.elim)
theorem pe_callS {E : L2.St → XK} (F : FnOk X.prog X.w X.K X.mg X.base T k f fd ps sp) (hr : Room k X.A) (hg : Gl X x) (hm : X.mg x = some (.ref f)) (hk : PySem.W.keepIn X.K (.ref f) = true) (hb : Binds X.K fd ps []) (hx : ∀ σ, PassesAt T X σ (E σ)) (ha : PA X (e :: es) t)
    (hdb : (x == ("__debug__" : Str)) = false := by decide) (he : starEach (e :: es) X.env = (false, eval e X.env) :: starEach es X.env := by rfl) (hpl : (backTo pos (starEach es X.env)).any (·.1) = false := by rfl) :
    PE X (.Call (.Name x p) (e :: es) [] pos) (tCallS sp E t) := by
  constructor
  intro pins s σ H Q I h
  exact wpAny_Call_Name_kw (ld_glob I hg hm (PySem.W.callWith_K (h₀ := X.base) I.ok.mod.kin hk (thn (ha.run pos pins s σ H _ I h) fun us s1 ⟨vs, h1, I1, r, q⟩ => ⟨I1.kIn, run_fnS F hr hb (hx σ) I1 r q⟩) he hpl) hdb)
variable {g : List Value → List Value → List Value} {gV : List V → List V → List V} {E : XK}
end
end TV
namespace TV
open PySem PySem.Spec PyProof.Rows L2
section
variable {P : Program} {w : World} {K : PySem.W.Frag} {mg mb : Str → Option Value} {k : Nat} {fa a : Addr} {cs : List (Addr × Addr)} {fd : FuncData} {x : Str} {sp : Sp} {s : Shared} {vs : List Value} {ns : List Int} {H : Hp}
def tbls (cs : List (Addr × Addr)) : List Addr := cs.map (·.2)
structure Trk (K : PySem.W.Frag) (cs : List (Addr × Addr)) (a : Addr) (ns : List Int) (P : Program) (w : World) (h : Heap) (H : Hp) : Prop where
  tb : ∀ p ∈ cs, H p.2 = some (.tbl #[])
  un : ∀ b, b ∉ tbls cs → H b = none ∨ (b = a ∧ K.lookup a = none ∧ ∃ o xs, H b = some (.frz o (.lst xs)))
  sq : SqL K H a (ns.map V.int)
  ok : HOk P w H h
theorem tbl_mem {p : Addr × Addr} (h : p ∈ cs) : p.2 ∈ tbls cs := List.mem_map.mpr ⟨p, h, rfl⟩
theorem trk_mk (KX : K.In s.heap) (hT : ∀ p ∈ cs, s.heap.get? p.2 = some { cls := .none, data := .fields #[] }) (ha : s.heap.get? a = some { cls := .type "list", data := .seq vs.toArray }) (hi : IntsAre vs ns) (hl : ns.length ≤ sizeLine) : ∃ H, Trk K cs a ns P w s.heap H := by
  have tabs : ∀ b ∈ tbls cs, s.heap.get? b = some { cls := .none, data := .fields #[] } := fun b hb => by
    obtain ⟨p, hp, e⟩ := List.mem_map.mp hb
    exact e ▸ hT p hp
  have na : a ∉ tbls cs := fun z => by
    have q := (tabs a z).symm.trans ha
    have q2 : Data.fields #[] = Data.seq vs.toArray _ := congrArg Obj.data (Option.some.inj q)
    cases q2
  cases own : K.lookup a with
  | some o =>
    have eo := (KX a o own).symm.trans ha
    cases eo
    refine ⟨fun b => if b ∈ tbls cs then some (.tbl #[]) else none, fun p hp => if_pos (tbl_mem hp), fun b nb => .inl (if_neg nb), .inr ⟨_, vs.toArray, _, own, rfl, rfl, rfl, ?_, vals_ints hi⟩, fun b u z => ?_⟩
    · rw [List.size_toArray, hi.length]
      exact hl
    · by_cases m : b ∈ tbls cs
      · have q := (if_pos m).symm.trans z
        cases q
        exact tabs b m
      · have q := (if_neg m).symm.trans z
        cases q
  | none =>
    refine ⟨fun b => if b ∈ tbls cs then some (.tbl #[]) else if b = a then some (.frz { cls := .type "list", data := .seq vs.toArray } (.lst (ns.map V.int))) else none, fun p hp => if_pos (tbl_mem hp), fun b nb => ?_,
      .inl (.inr ⟨{ cls := .type "list", data := .seq vs.toArray }, (if_neg na).trans (if_pos rfl)⟩), fun b u z => ?_⟩
    · by_cases m : b = a
      · exact .inr ⟨m, own, _, _, (if_neg nb).trans (if_pos m)⟩
      · exact .inl ((if_neg nb).trans (if_neg m))
    · by_cases m : b ∈ tbls cs
      · have q := (if_pos m).symm.trans z
        cases q
        exact tabs b m
      · have z := (if_neg m).symm.trans z
        by_cases m2 : b = a
        · have q := (if_pos m2).symm.trans z
          cases q
          cases m2
          exact ⟨ha, by rw [List.length_map]; exact hl, vs, _, vals_ints hi, ha⟩
        · have q := (if_neg m2).symm.trans z
          cases q
theorem Trk.base {h : Heap} (t : Trk K cs a ns P w h H) (ha : h.get? a = some { cls := .type "list", data := .seq vs.toArray }) (hT : ∀ p ∈ cs, h.get? p.2 = some { cls := .none, data := .fields #[] }) {b : Addr} {o : Obj} (e : h.get? b = some o) (h1 : ∀ us n, o.data = .seq us n → K.lookup a = none → b ≠ a) (h2 : o.data ≠ .fields #[]) : (hidT h H).get? b = some o := by
  refine hidT_get e ?_
  by_cases m : b ∈ tbls cs
  · obtain ⟨p, hp, ep⟩ := List.mem_map.mp m
    have q := (ep ▸ hT p hp : h.get? b = _).symm.trans e
    cases q
    exact absurd rfl h2
  · rcases t.un b m with z | ⟨eb, kn, _⟩
    · exact z
    · have q := (eb ▸ e : h.get? a = some o).symm.trans ha
      cases q
      exact absurd eb (h1 _ _ rfl kn)
theorem law_go (KX : K.In s.heap) (hns : s.heap.Ns mainGlobals mg) (hb : s.heap.Ns builtinsNs mb) (hbb : ∀ y : Str, y ≠ "__name__" → mb y = bootBuiltins y) (hlim : s.heap.NoLimit) (hg : s.gens = #[])
    (hT : ∀ p ∈ cs, s.heap.get? p.2 = some { cls := .none, data := .fields #[] }) (nT : ∀ p ∈ cs, K.lookup p.2 = none) (C : ∀ p ∈ cs, PySem.W.CodeHd s.heap p.1 p.2)
    (hbm : ∃ (bm : Addr) (ob : Obj), mg "__builtins__" = some (.ref bm) ∧ bm ≠ builtinsNs ∧ s.heap.get? bm = some ob ∧ ob.cls = .type "module" ∧ ob.dict = some builtinsNs ∧ ob.data = .plain)
    (ha : s.heap.get? a = some { cls := .type "list", data := .seq vs.toArray }) (hi : IntsAre vs ns) (hl : ns.length ≤ sizeLine) (room : Room k callerA)
    (F : ∀ base : Heap, K.In base → base.Ns mainGlobals mg → (∀ p ∈ cs, LamX.TabB base mg p.1 p.2) → FnOk P w K mg base CX0 k fa fd [x] sp) (bind : ∀ (s : Shared) (u : Value), BindsTo s fd ⟨[u], []⟩ [(x, u)])
    (hsp : ∀ H : Hp, (∀ p ∈ cs, H p.2 = some (.tbl #[])) → (∀ b, b ∉ tbls cs → H b = none ∨ ∃ o xs, H b = some (.frz o (.lst xs))) → SqL K H a (ns.map V.int) → sp [.ref a] H (fun v _ => v = .bl true) fun _ _ _ => False) :
    codeAny (model P w) callerA (.call (.ref fa) ⟨[.ref a], []⟩) (fun r s' => r = .ok (.ret (.bool true)) ∧ OldK s.heap s'.heap ∧ s'.os = s.os ∧ AllBare s'.gens) s := by
  obtain ⟨H, t⟩ := trk_mk (P := P) (w := w) KX hT ha hi hl
  have bs : ∀ {b : Addr} {o : Obj}, s.heap.get? b = some o → (∀ us n, o.data ≠ .seq us n) → o.data ≠ .fields #[] → (hidT s.heap H).get? b = some o := fun e h1 h2 => t.base ha hT e (fun us n z _ => absurd z (h1 us n)) h2
  have bd : ∀ {b : Addr} {o : Obj} {es : Array DictEntry} {ep : Nat}, s.heap.get? b = some o → o.data = .dict es ep → (hidT s.heap H).get? b = some o := fun e d => bs e (fun us n z => by rw [d] at z; cases z) (fun z => by rw [d] at z; cases z)
  have bn : ∀ {b : Addr} {m : Str → Option Value}, s.heap.Ns b m → (hidT s.heap H).Ns b m := fun {b m} q => by
    obtain ⟨o, es, ep, e, d, r⟩ := q
    exact ⟨o, es, ep, bd e d, d, r⟩
  have kin : K.In (hidT s.heap H) := fun b o e => by
    have eh := KX b o e
    refine hidT_get eh ?_
    by_cases m : b ∈ tbls cs
    · obtain ⟨p, hp, ep⟩ := List.mem_map.mp m
      rw [← ep, nT p hp] at e
      cases e
    · rcases t.un b m with z | ⟨eb, kn, _⟩
      · exact z
      · rw [eb, kn] at e
        cases e
  have md : L2.Mod K mg (hidT s.heap H) := by
    obtain ⟨mc, l1, l2⟩ := hlim
    exact ⟨kin, bn hns, ⟨mb, bn hb, hbb⟩, mc, bn l1, l2⟩
  have tabs : ∀ p ∈ cs, LamX.TabB (hidT s.heap H) mg p.1 p.2 := fun p hp => by
    have tp := hT p hp
    obtain ⟨og, es, ep, eg, dg, _⟩ := id hns
    refine ⟨?_, ?_, fun z => ?_⟩
    · obtain ⟨o, us, fl, tf, flg, tg, inF, tx, tt, e1, r1, r2, r3, rest⟩ := C p hp
      exact ⟨o, us, fl, tf, flg, tg, inF, tx, tt, bs e1 (fun us n z => by rw [r2] at z; cases z) (fun z => by rw [r2] at z; cases z; simp at r3), r1, r2, r3, rest⟩
    · obtain ⟨bm, ob, b1, b2, b3, b4, b5, b6⟩ := hbm
      refine ⟨bm, ob, b1, b2, fun q => ?_, fun q => ?_, bs b3 (fun us n z => by rw [b6] at z; cases z) (fun z => by rw [b6] at z; cases z), b4, b5, b6⟩
      · have z := (q ▸ b3 : s.heap.get? mainGlobals = some ob).symm.trans eg
        cases z
        rw [dg] at b6
        cases b6
      · have z := (q ▸ b3 : s.heap.get? p.2 = some ob).symm.trans tp
        cases z
        cases b6
    · have q := (z ▸ tp : s.heap.get? mainGlobals = _).symm.trans eg
      cases q
      cases dg
  have e0 : Env0 P w K mg (hidT s.heap H) callerA [] s H := ⟨rfl, md, fun b o => of_hidT, Nat.le_of_eq (hidT_size _ _), trivial, (fun b z => nomatch (show b ∈ ([] : List Addr) from z)), t.ok, .of_eq hg⟩
  refine codeAny_mono ((F _ kin (bn hns) tabs).run callerA [] s H ⟨[.ref a], []⟩ [.ref a] [.ref a] _ _ room e0 (bind s (.ref a)) (.cons rfl .nil) (hsp H t.tb (fun b nb => (t.un b nb).imp id fun z => z.2.2) t.sq)) fun r s' z => ?_
  match r, z with
  | .error e, z => exact z.elim
  | .ok .next, z => exact z.elim
  | .ok .brk, z => exact z.elim
  | .ok .cont, z => exact z.elim
  | .ok (.ret u), ⟨v, H', os, bare, un, hok, rv, q⟩ =>
    have q : v = .bl true := q
    cases q
    have eu : u = Value.bool true := rv
    cases eu
    have old : ∀ b o, b ∉ tbls cs → s.heap.get? b = some o → s'.heap.get? b = some o := fun b o m e => by
      rcases t.un b m with z | ⟨_, _, ob, xs, z⟩
      · exact un.keep b o e z (fun y => absurd (show b ∈ ([] : List Addr) from y) (by simp)) (by simp)
      · have e1 := (t.ok b _ z).1
        have e2 := (hok b _ (un.frzs b ob _ z)).1
        exact e2.trans (e1.symm.trans e)
    have grew : ∀ p ∈ cs, ∃ more : Array Value, s'.heap.get? p.2 = some { cls := .none, data := .fields more } := fun p hp => by
      obtain ⟨more, z⟩ := un.tbls p.2 #[] (t.tb p hp)
      exact ⟨_, hok p.2 _ z⟩
    refine ⟨rfl, ⟨fun b o e => ?_, fun b o e => ?_⟩, os, bare⟩
    · by_cases m : b ∈ tbls cs
      · obtain ⟨p, hp, ep⟩ := List.mem_map.mp m
        cases ep
        obtain ⟨more, hm⟩ := grew p hp
        have q := (hT p hp).symm.trans e
        cases q
        exact .inr (.inl ⟨((C p hp).tab (hT p hp)).isCodeTable, rfl, #[], more, rfl, by rw [Array.empty_append]; exact hm⟩)
      · exact .inl (old b o m e)
    · by_cases m : b ∈ tbls cs
      · obtain ⟨p, hp, ep⟩ := List.mem_map.mp m
        cases ep
        exact (grew p hp).elim fun more hm => ⟨_, hm⟩
      · exact ⟨o, old b o m e⟩
end
end TV
namespace TV
open PySem PySem.Spec PyProof.Rows L2
def wbE : List Opd → List D → Env → Env → Env
  | .var i _ :: os, d :: ds, some e :: outs, ρ => wbE os ds outs (if d.own = true ∧ e.own = true then ρ.set i (some e) else ρ)
  | _ :: os, _ :: ds, _ :: outs, ρ => wbE os ds outs ρ
  | _, _, _, ρ => ρ
theorem wbE_tmp {m : ME} {p : D → Bool} {os : List Opd} {d : D} {ds : List D} {o : Option D} {outs ρ : Env} : wbE (.tmp m p :: os) (d :: ds) (o :: outs) ρ = wbE os ds outs ρ := by cases o <;> rfl
theorem set_same {σ : L2.St} {i : Nat} {v : V} (h : σ[i]? = some (some v)) : σ.set i (some v) = σ := by
  refine List.ext_getElem? fun j => ?_
  by_cases c : i = j
  · subst c
    rw [List.getElem?_set_self (List.getElem?_eq_some_iff.mp h).1, h]
  · rw [List.getElem?_set_ne c]
theorem back_ok {G : GG} [NoSlot G] {ρ0 ρ' : Env} {σ : L2.St} {H H' H2 : Hp} : ∀ {os : List Opd} {xs : List (Option D)} {vs : List V} {ds : List D} {ρ outs : Env}, AR G ρ0 σ H ρ' H' os xs vs → RE G ρ σ H2 → RE G outs (vs.map some) H2 → (∀ a, own ρ σ a → ¬ own outs (vs.map some) a) →
    RE G (wbE os ds outs ρ) σ H2 ∧ ∀ a, own (wbE os ds outs ρ) σ a → own ρ σ a ∨ own outs (vs.map some) a
  | _, _, _, ds, ρ, outs, .nil, re, ro, dj => by
    unfold wbE
    exact ⟨re, fun a h => .inl h⟩
  | _, _, _, ds, ρ, outs, .tmp (v := v) (vs := vs) q n r, re, ro, dj => by
    cases ds with
    | nil => exact ⟨re, fun a h => .inl h⟩
    | cons d ds =>
      cases outs with
      | nil => exact ⟨re, fun a h => .inl h⟩
      | cons o outs =>
        have k := back_ok (ds := ds) r re (RE.tail ro) fun a h z => dj a h (own_tail z)
        rw [wbE_tmp]
        exact ⟨k.1, fun a h => (k.2 a h).imp id own_tail⟩
  | _, _, _, ds, ρ, outs, .var (i := i) (v := v) (vs := vs) s r, re, ro, dj => by
    cases ds with
    | nil => exact ⟨re, fun a h => .inl h⟩
    | cons d ds =>
      cases outs with
      | nil => exact ⟨re, fun a h => .inl h⟩
      | cons o outs =>
        cases o with
        | none =>
          have k := back_ok (ds := ds) r re (RE.tail ro) fun a h z => dj a h (own_tail z)
          exact ⟨k.1, fun a h => (k.2 a h).imp id own_tail⟩
        | some e =>
          unfold wbE
          by_cases c : d.own = true ∧ e.own = true
          · rw [if_pos c]
            obtain ⟨v', e1, rs⟩ := ro.val 0 e rfl
            cases e1
            have q : Res G ρ σ (fun _ => none) ρ σ H2 e v := ⟨rs, fun a ea oa => ⟨fun z => dj a z ⟨0, e, rfl, oa, by rw [ea]; rfl⟩, .inl rfl⟩⟩
            · have r1 := re.setN q i
              rw [set_same s] at r1
              have ow : ∀ a, own (ρ.set i (some e)) σ a → (v = .ref a ∧ e.own = true) ∨ own ρ σ a := fun a h => own_set re.len (by rw [set_same s]; exact h)
              have k := back_ok (ds := ds) r r1 (RE.tail ro) fun a h z => by
                rcases ow a h with ⟨ev, oe⟩ | h
                · obtain ⟨j, x, x1, x2, x3⟩ := z
                  have := ro.sep 0 (j + 1) e x a rfl x1 oe x2 (by rw [ev]; rfl) x3
                  cases this
                · exact dj a h (own_tail z)
              refine ⟨k.1, fun a h => ?_⟩
              rcases k.2 a h with h | h
              · rcases ow a h with ⟨ev, oe⟩ | h
                · exact .inr ⟨0, e, rfl, oe, by rw [ev]; rfl⟩
                · exact .inl h
              · exact .inr (own_tail h)
          · rw [if_neg c]
            have k := back_ok (ds := ds) r re (RE.tail ro) fun a h z => dj a h (own_tail z)
            exact ⟨k.1, fun a h => (k.2 a h).imp id own_tail⟩
theorem takeA_len : ∀ {os : List Opd} {xs : List (Option D)} {ρ ρ2 : Env} {ds : List D}, takeA os xs ρ = some (ds, ρ2) → ds.length = os.length
  | [], [], _, _, _, e => by cases e; rfl
  | [], _ :: _, _, _, _, e => by cases e
  | .var i _ :: os, [], _, _, _, e => by cases e
  | .tmp _ _ :: os, [], _, _, _, e => by cases e
  | .tmp _ _ :: os, none :: _, _, _, _, e => by cases e
  | .var i _ :: os, _ :: xs, ρ, _, _, e => by
    unfold takeA at e
    split at e
    · rw [Option.map_eq_some_iff] at e
      obtain ⟨⟨ds, ρ3⟩, e1, e2⟩ := e
      cases e2
      exact congrArg Nat.succ (takeA_len e1)
    · cases e
  | .tmp _ _ :: os, some d :: xs, ρ, _, _, e => by
    unfold takeA at e
    rw [Option.map_eq_some_iff] at e
    obtain ⟨⟨ds, ρ3⟩, e1, e2⟩ := e
    cases e2
    exact congrArg Nat.succ (takeA_len e1)
theorem around_call {G : GG} [NoSlot G] {ρ ρ' ρ2 : Env} {σ : L2.St} {H H' H2 : Hp} {os : List Opd} {xs : List (Option D)} {vs ws : List V} {ds : List D} {τ τ' : Env} {d : D} {v : V}
    (f : Fr ρ σ H ρ' σ H') (re : RE G ρ' σ H') (ar : AR G ρ σ H ρ' H' os xs vs) (T : Taken G ρ' σ H' (tA os xs vs) ds vs ρ2) (rt : RE G τ (ws.map some) H') (st : ∀ a, own τ (ws.map some) a → own (ds.map some) (vs.map some) a)
    (r2 : RE G τ' (ws.map some) H2) (f2 : Fr τ (ws.map some) H' τ' (ws.map some) H2) (q : Res G τ (ws.map some) H' τ' (ws.map some) H2 d v) :
    RE G ρ2 σ H2 ∧ (∀ a, own ρ2 σ a → ¬ own τ' (ws.map some) a) ∧ ∀ ρ3, (∀ a, own ρ3 σ a → own ρ2 σ a ∨ own τ' (ws.map some) a) → Fr ρ σ H ρ3 σ H2 ∧ ∀ a, v = .ref a → d.own = true → ¬ own ρ3 σ a ∧ (H a = none ∨ own ρ σ a) := by
  have apart : ∀ a, own ρ2 σ a → ¬ own τ (ws.map some) a := fun a h z => by
    rcases T.from_ a (st a z) with ⟨_, k⟩ | k
    · exact k h
    · exact (ar.tA a k).1 (T.sub a h)
  have re2 : RE G ρ2 σ H2 := ⟨T.re.len, fun i x e => by
    obtain ⟨u, e1, rs⟩ := T.re.val i x e
    exact ⟨u, e1, rs.keep (f2.fix rt) fun a o ea oa hb m => f2.ob a o hb m.tab (apart a ⟨i, x, e, oa, by rw [← ea]; exact e1⟩)⟩, T.re.sep, G.pinOk _ _ (f2.fix rt) T.re.pin, RE.noSpin⟩
  have dj : ∀ a, own ρ2 σ a → ¬ own τ' (ws.map some) a := fun a h => by
    obtain ⟨u, hu, _⟩ := T.re.there h
    exact f2.no a u hu (apart a h)
  -- what was not owned ahead of the arguments
  have back : ∀ b, own ρ' σ b ∨ H' b = none → H b = none ∨ own ρ σ b := fun b h => by
    by_cases c : own ρ σ b
    · exact .inr c
    · cases z : H b with
      | none => exact .inl rfl
      | some o =>
        obtain ⟨⟨_, f1⟩, f3⟩ := f.stays z c
        rcases h with h | h
        · exact absurd h f3
        · rw [f1] at h; cases h
  have back2 : ∀ b, own τ (ws.map some) b → H b = none ∨ own ρ σ b := fun b h => by
    rcases T.from_ b (st b h) with ⟨k, _⟩ | k
    · exact back b (.inl k)
    · exact (ar.tA b k).2.1
  have nt : ∀ b o, H b = some o → ¬ own ρ σ b → ¬ own τ (ws.map some) b := fun b o hb nb z => by
    rcases back2 b z with k | k
    · rw [hb] at k; cases k
    · exact nb k
  refine ⟨re2, dj, fun ρ3 h3 => ⟨⟨fun b o hb t nb => f2.ob b o (f.ob b o hb t nb) t (nt b o hb nb), fun b o hb nb z => ?_, fun b o hb t => ?_, fun P z => f2.tab P (f.tab P z)⟩, fun a ea oa => ⟨fun k => ?_, ?_⟩⟩⟩
  · obtain ⟨⟨o', g1⟩, g2⟩ := f.stays hb nb
    rcases h3 b z with k | k
    · exact g2 (T.sub b k)
    · exact f2.no b o' g1 (nt b o hb nb) k
  · obtain ⟨o', g1, t'⟩ := f.tb b o hb t
    exact f2.tb b o' g1 t'
  · rcases h3 a k with k | k
    · obtain ⟨u, hu, _⟩ := T.re.there k
      rcases (q.2 a ea oa).2 with z | z
      · rw [hu] at z; cases z
      · exact apart a k z
    · exact (q.2 a ea oa).1 k
  · rcases (q.2 a ea oa).2 with z | z
    · exact back a (.inr z)
    · exact back2 a z
def kCall (os : List Opd) (F : FV) : List (Option D) × Env → R (D × Env) := fun p => match takeA os p.1 p.2 with
  | some (ds, ρ) => match F (ds.map some) with
    | .ok (d, outs) => .ok (d, wbE os ds outs ρ)
    | .exc c w outs => .exc c w (wbE os ds outs ρ)
    | .stuck => .stuck
  | none => .stuck
def mCall (os : List Opd) (F : FV) : ME := fun ρ => (ev os ρ).bind (kCall os F)
theorem rdCall {G : GG} [NoSlot G] {W : WX} {os : List Opd} {F : FV} {σ : L2.St} {H : Hp} {Q : VK} (q : rdE G W (mCall os F) σ H Q) : tOs G W os σ H fun vs H1 => spV G os.length F vs H1 Q (WE W σ) := by
  obtain ⟨ρ, re, q⟩ := q
  refine args_run re ?_
  have q : postE G W ρ σ H Q ((ev os ρ).bind (kCall os F)) := q
  cases e : ev os ρ with
  | exc c w ρ' => rw [e] at q; exact q
  | stuck => rw [e] at q; exact q
  | ok p =>
    rw [e] at q
    obtain ⟨xs, ρ'⟩ := p
    intro vs H' r' f' ar
    have q : postE G W ρ σ H Q (match takeA os xs ρ' with
      | some (ds, ρ) => match F (ds.map some) with
        | .ok (d, outs) => .ok (d, wbE os ds outs ρ)
        | .exc c w outs => .exc c w (wbE os ds outs ρ)
        | .stuck => .stuck
      | none => .stuck) := q
    cases e2 : takeA os xs ρ' with
    | none => rw [e2] at q; exact q.elim
    | some p2 =>
      rw [e2] at q
      obtain ⟨ds, ρ2⟩ := p2
      have q : postE G W ρ σ H Q (match F (ds.map some) with
        | .ok (d, outs) => .ok (d, wbE os ds outs ρ2)
        | .exc c w outs => .exc c w (wbE os ds outs ρ2)
        | .stuck => .stuck) := q
      have T := take_ok ar r' (fun a h => h) e2
      refine ⟨?_, ds.map some, T.args, ?_⟩
      · have l1 := T.args.len
        rw [List.length_map, List.length_map] at l1
        rw [← l1]
        exact takeA_len e2
      · cases e3 : F (ds.map some) with
        | exc c w outs =>
          rw [e3] at q
          intro H2 dd fs v r2 f2 y1 y2 rv
          obtain ⟨a1, a2, a3⟩ := around_call f' r' ar T T.args (fun a h => h) r2 f2 (Res.of_rv (v := .non) .non)
          obtain ⟨b1, b2⟩ := back_ok (ds := ds) ar a1 r2 a2
          exact q σ H2 dd fs v b1 (a3 _ b2).1 SameBut.refl y1 y2 rv
        | stuck => rw [e3] at q; exact q.elim
        | ok p3 =>
          rw [e3] at q
          obtain ⟨d, outs⟩ := p3
          intro v H2 r2 f2 rs
          obtain ⟨a1, a2, a3⟩ := around_call f' r' ar T T.args (fun a h => h) r2 f2 rs
          obtain ⟨b1, b2⟩ := back_ok (ds := ds) ar a1 r2 a2
          obtain ⟨c1, c2⟩ := a3 _ b2
          exact q v H2 b1 c1 ⟨rs.1, c2⟩
def permL {α : Type} (ix : List Nat) (l : List α) : List α := ix.filterMap fun i => l[i]?
theorem permL_map {α β : Type} (f : α → β) (l : List α) : ∀ ix : List Nat, permL ix (l.map f) = (permL ix l).map f
  | [] => rfl
  | i :: ix => by
    have ih := permL_map f l ix
    unfold permL at ih ⊢
    rw [List.filterMap_cons, List.filterMap_cons, List.getElem?_map]
    cases l[i]? with
    | none => exact ih
    | some a => rw [Option.map_some, List.map_cons, ih]
theorem permL_vals {vs : List V} {us : List Value} (r : Vals vs us) : ∀ ix : List Nat, Vals (permL ix vs) (permL ix us)
  | [] => .nil
  | i :: ix => by
    have ih := permL_vals r ix
    unfold permL at ih ⊢
    rw [List.filterMap_cons, List.filterMap_cons]
    cases e : vs[i]? with
    | none =>
      have : us[i]? = none := by
        rw [List.getElem?_eq_none_iff] at e ⊢
        rw [← r.length]
        exact e
      rw [this]
      exact ih
    | some v =>
      obtain ⟨u, hu, ru⟩ := r.get e
      rw [hu]
      exact .cons ru ih
theorem RE.consO {G : GG} [NoSlot G] {ρ : Env} {σ : L2.St} {H : Hp} {o : Option D} {x : Option V} (r : RE G ρ σ H) (h : ∀ d, o = some d → ∃ v, x = some v ∧ RS G H d v ∧ ∀ a, v = .ref a → d.own = true → ¬ own ρ σ a) : RE G (o :: ρ) (x :: σ) H := by
  cases o with
  | some d =>
    obtain ⟨v, rfl, rs, n⟩ := h d rfl
    exact r.cons rs n
  | none =>
    refine ⟨congrArg Nat.succ r.len, fun i d e => ?_, fun i j d e a e1 e2 o1 o2 s1 s2 => ?_, r.pin, RE.noSpin⟩
    · cases i with
      | zero => cases e
      | succ i => exact r.val i d e
    · cases i with
      | zero => cases e1
      | succ i =>
        cases j with
        | zero => cases e2
        | succ j => exact congrArg Nat.succ (r.sep i j d e a e1 e2 o1 o2 s1 s2)
theorem own_perm {ρ : Env} {σ : L2.St} {a : Addr} (l : ρ.length = σ.length) : ∀ {ix : List Nat}, own (permL ix ρ) (permL ix σ) a → ∃ (j : Nat) (d : D), j ∈ ix ∧ ρ[j]? = some (some d) ∧ d.own = true ∧ σ[j]? = some (some (.ref a))
  | [], h => absurd h own_nil
  | i :: ix, h => by
    unfold permL at h
    rw [List.filterMap_cons, List.filterMap_cons] at h
    cases e : ρ[i]? with
    | none =>
      have : σ[i]? = none := by
        rw [List.getElem?_eq_none_iff] at e ⊢
        rw [← l]
        exact e
      rw [e, this] at h
      obtain ⟨j, d, h1, h2⟩ := own_perm l (ix := ix) h
      exact ⟨j, d, List.mem_cons_of_mem _ h1, h2⟩
    | some o =>
      obtain ⟨x, hx⟩ : ∃ x, σ[i]? = some x := by
        have := (List.getElem?_eq_some_iff.mp e).1
        exact ⟨_, List.getElem?_eq_getElem (by rw [← l]; exact this)⟩
      rw [e, hx] at h
      rcases own_cons h with ⟨d, ed, od, ev⟩ | h
      · exact ⟨i, d, List.mem_cons_self, by rw [e, ed], od, by rw [hx, ev]⟩
      · obtain ⟨j, d, h1, h2⟩ := own_perm l (ix := ix) h
        exact ⟨j, d, List.mem_cons_of_mem _ h1, h2⟩
theorem RE.perm {G : GG} [NoSlot G] {ρ : Env} {σ : L2.St} {H : Hp} (r : RE G ρ σ H) : ∀ {ix : List Nat}, ix.Nodup → RE G (permL ix ρ) (permL ix σ) H
  | [], _ => RE.nil r.pin
  | i :: ix, nd => by
    have ih := RE.perm r (List.nodup_cons.mp nd).2
    have ow := fun a => own_perm (ix := ix) (a := a) r.len
    unfold permL at ih ow ⊢
    rw [List.filterMap_cons, List.filterMap_cons]
    cases e : ρ[i]? with
    | none =>
      have : σ[i]? = none := by
        rw [List.getElem?_eq_none_iff] at e ⊢
        rw [← r.len]
        exact e
      rw [this]
      exact ih
    | some o =>
      obtain ⟨x, hx⟩ : ∃ x, σ[i]? = some x := by
        have := (List.getElem?_eq_some_iff.mp e).1
        exact ⟨_, List.getElem?_eq_getElem (by rw [← r.len]; exact this)⟩
      rw [hx]
      refine ih.consO fun d ed => ?_
      subst ed
      obtain ⟨v, ev, rs⟩ := r.val i d e
      rw [hx] at ev
      cases ev
      refine ⟨v, rfl, rs, fun a ea oa h => ?_⟩
      obtain ⟨j, x, h1, h2, h3, h4⟩ := ow a h
      have := r.sep i j d x a e h2 oa h3 (by rw [hx, ea]) h4
      subst this
      exact (List.nodup_cons.mp nd).1 h1
theorem RE.of_rvs {G : GG} [NoSlot G] {H : Hp} (p : G.pin H) : ∀ {ds : List D} {vs : List V}, RVs G H ds vs → RE G (ds.map some) (vs.map some) H ∧ ∀ a, ¬ own (ds.map some) (vs.map some) a
  | _, _, .nil => ⟨RE.nil p, fun a h => own_nil h⟩
  | _, _, .cons r t => by
    have ih := RE.of_rvs p t
    refine ⟨ih.1.cons r.rs fun a _ o => (by rw [r.plain] at o; cases o), fun a k => ?_⟩
    rcases own_cons k with ⟨x, ex, ox, _⟩ | k
    · cases ex
      rw [r.plain] at ox
      cases ox
    · exact ih.2 a k
theorem RE.app_rv {G : GG} [NoSlot G] {H : Hp} {dfl : List D} {dvs : List V} (h : RVs G H dfl dvs) : ∀ {ds : List D} {vs : List V}, RE G (ds.map some) (vs.map some) H → RE G ((ds ++ dfl).map some) ((vs ++ dvs).map some) H ∧ ∀ a, own ((ds ++ dfl).map some) ((vs ++ dvs).map some) a → own (ds.map some) (vs.map some) a
  | [], [], r => by
    rw [List.nil_append, List.nil_append]
    exact ⟨(RE.of_rvs r.pin h).1, fun a k => absurd k ((RE.of_rvs r.pin h).2 a)⟩
  | [], _ :: _, r => by have := r.len; simp at this
  | _ :: _, [], r => by have := r.len; simp at this
  | d :: ds, v :: vs, r => by
    have ih := RE.app_rv h (RE.tail r)
    obtain ⟨v', e, rs⟩ := r.val 0 d rfl
    cases e
    refine ⟨ih.1.cons rs fun a ea oa k => ?_, fun a k => ?_⟩
    · obtain ⟨j, x, x1, x2, x3⟩ := ih.2 a k
      have := r.sep 0 (j + 1) d x a rfl x1 oa x2 (by rw [ea]; rfl) x3
      cases this
    · rcases own_cons k with ⟨x, ex, ox, ev⟩ | k
      · cases ex; cases ev
        exact ⟨0, d, rfl, ox, rfl⟩
      · exact own_tail (ih.2 a k)
def kCallP (os : List Opd) (dfl : List D) (ix : List Nat) (F : FV) : List (Option D) × Env → R (D × Env) := fun p => match takeA os p.1 p.2 with
  | some (ds, ρ) => match F (permL ix ((ds ++ dfl).map some)) with
    | .ok (d, _) => .ok (d, ρ)
    | .exc c w _ => .exc c w ρ
    | .stuck => .stuck
  | none => .stuck
def mCallP (os : List Opd) (dfl : List D) (ix : List Nat) (F : FV) : ME := fun ρ => (ev os ρ).bind (kCallP os dfl ix F)
theorem permL_len {α : Type} {l : List α} : ∀ {ix : List Nat}, (∀ i ∈ ix, i < l.length) → (permL ix l).length = ix.length
  | [], _ => rfl
  | i :: ix, h => by
    have ih := permL_len (ix := ix) fun j hj => h j (List.mem_cons_of_mem _ hj)
    unfold permL at ih ⊢
    rw [List.filterMap_cons, List.getElem?_eq_getElem (h i List.mem_cons_self)]
    exact congrArg Nat.succ ih
theorem rdCallP {G : GG} [NoSlot G] {W : WX} {os : List Opd} {dfl : List D} {dvs : List V} {ix : List Nat} {F : FV} {σ : L2.St} {H : Hp} {Q : VK} (hd : ∀ H, RVs G H dfl dvs) (nd : ix.Nodup) (hx : ∀ i ∈ ix, i < os.length + dfl.length) (q : rdE G W (mCallP os dfl ix F) σ H Q) :
    tOs G W os σ H fun vs H1 => spV G ix.length F (permL ix (vs ++ dvs)) H1 Q (WE W σ) := by
  obtain ⟨ρ, re, q⟩ := q
  refine args_run re ?_
  have q : postE G W ρ σ H Q ((ev os ρ).bind (kCallP os dfl ix F)) := q
  cases e : ev os ρ with
  | exc c w ρ' => rw [e] at q; exact q
  | stuck => rw [e] at q; exact q
  | ok p =>
    rw [e] at q
    obtain ⟨xs, ρ'⟩ := p
    intro vs H' r' f' ar
    have q : postE G W ρ σ H Q (match takeA os xs ρ' with
      | some (ds, ρ) => match F (permL ix ((ds ++ dfl).map some)) with
        | .ok (d, _) => .ok (d, ρ)
        | .exc c w _ => .exc c w ρ
        | .stuck => .stuck
      | none => .stuck) := q
    cases e2 : takeA os xs ρ' with
    | none => rw [e2] at q; exact q.elim
    | some p2 =>
      rw [e2] at q
      obtain ⟨ds, ρ2⟩ := p2
      have q : postE G W ρ σ H Q (match F (permL ix ((ds ++ dfl).map some)) with
        | .ok (d, _) => .ok (d, ρ2)
        | .exc c w _ => .exc c w ρ2
        | .stuck => .stuck) := q
      have T := take_ok ar r' (fun a h => h) e2
      have l1 := T.args.len
      rw [List.length_map, List.length_map, takeA_len e2] at l1
      obtain ⟨ra, oa⟩ := RE.app_rv (hd H') T.args
      have rp := RE.perm ra nd
      rw [permL_map some (vs ++ dvs)] at rp
      refine ⟨permL_len fun i hi => ?_, _, rp, ?_⟩
      · rw [List.length_append, ← l1, ← (hd H').length]
        exact hx i hi
      · have sub : ∀ a, own (permL ix ((ds ++ dfl).map some)) ((permL ix (vs ++ dvs)).map some) a → own (ds.map some) (vs.map some) a := fun a h => by
          rw [← permL_map some (vs ++ dvs)] at h
          obtain ⟨j, x, _, h2, h3, h4⟩ := own_perm ra.len h
          exact oa a ⟨j, x, h2, h3, h4⟩
        cases e3 : F (permL ix ((ds ++ dfl).map some)) with
        | exc c w outs =>
          rw [e3] at q
          intro H2 dd fs v r2 f2 y1 y2 rv
          obtain ⟨a1, a2, a3⟩ := around_call f' r' ar T rp sub r2 f2 (Res.of_rv (v := .non) .non)
          exact q σ H2 dd fs v a1 (a3 ρ2 fun a h => .inl h).1 SameBut.refl y1 y2 rv
        | stuck => rw [e3] at q; exact q.elim
        | ok p3 =>
          rw [e3] at q
          obtain ⟨d, outs⟩ := p3
          intro v H2 r2 f2 rs
          obtain ⟨a1, a2, a3⟩ := around_call f' r' ar T rp sub r2 f2 rs
          obtain ⟨c1, c2⟩ := a3 ρ2 fun a h => .inl h
          exact q v H2 a1 c1 ⟨rs.1, c2⟩
theorem tOs_app {G : GG} [NoSlot G] {W : WX} {os2 : List Opd} {σ : L2.St} : ∀ {os : List Opd} {H : Hp} {Q : List V → Hp → Prop}, tOs G W (os ++ os2) σ H Q → tOs G W os σ H fun vs H1 => vs.length = os.length ∧ tOs G W os2 σ H1 fun zs H2 => Q (vs ++ zs) H2
  | [], _, _, h => ⟨rfl, h⟩
  | _ :: os, _, _, h => tO_mono h fun _ _ _ q => tOs_mono (os := os) (tOs_app (os := os) q) fun _ _ z => ⟨congrArg Nat.succ z.1, z.2⟩
theorem tOs_len {G : GG} [NoSlot G] {W : WX} {σ : L2.St} {os : List Opd} {H : Hp} {Q : List V → Hp → Prop} (h : tOs G W os σ H Q) : tOs G W os σ H fun vs H1 => vs.length = os.length ∧ Q vs H1 := by
  have k := tOs_app (os := os) (os2 := []) (by rw [List.append_nil]; exact h)
  exact tOs_mono k fun vs H1 z => ⟨z.1, by have y : Q (vs ++ []) H1 := z.2; rw [List.append_nil] at y; exact y⟩
section
variable {X : Cx} {CX : CXT} {k n : Nat} {f : Addr} {fd : FuncData} {ps ks : List Str} {sp : Sp} {E : L2.St → XK} {x : Str} {p pos : Pos} {e : Expr} {es : List Expr} {kws : List Keyword} {t tk : TA} {g : List Value → List Value → List Value} {gV : List V → List V → List V}
theorem run_fnNS {pins : List (Addr × Obj)} {σ : L2.St} {H : Hp} {s : Shared} {Q : VK} {us ws : List Value} {vs zs : List V} (F : FnOk X.prog X.w X.K X.mg X.base CX k f fd ps sp) (hr : Room k X.A) (hb : KBn X.K fd ps n ks g gV) (hx : PassesAt CX X σ (E σ))
    (I : Inv X pins σ H s) (r : Vals vs us) (rz : Vals zs ws) (l1 : vs.length = n) (l2 : zs.length = ks.length) (h : sp (gV vs zs) H Q (E σ)) : wpAny (model X.prog X.w) X.A (call (.ref f) us (ks.zip ws)) (EP X pins σ Q) X.xe s := by
  have r2 := hb.rel r rz
  refine wpAny_call (codeAny_mono (F.run X.A X.stack s H ⟨us, ks.zip ws⟩ (g us ws) (gV vs zs) Q (E σ) hr I.env0 (hb.to s us ws I.kIn (r.length.symm.trans l1) (rz.length.symm.trans l2)) r2 h) fun r s' hq => ?_)
  cases r with
  | error e => exact hx pins H s e s' I hq
  | ok fl =>
    cases fl with
    | ret u => exact I.after hq
    | next => exact False.elim hq
    | brk => exact False.elim hq
    | cont => exact False.elim hq
def tCallNS (n m : Nat) (sp : Sp) (gV : List V → List V → List V) (E : L2.St → XK) (t tk : TA) : TE := fun σ H Q => t σ H fun vs H1 => tk σ H1 fun zs H2 => vs.length = n ∧ zs.length = m ∧ sp (gV vs zs) H2 Q (E σ)
theorem pe_callNS (F : FnOk X.prog X.w X.K X.mg X.base CX k f fd ps sp) (hr : Room k X.A) (hg : Gl X x) (hm : X.mg x = some (.ref f)) (hk : PySem.W.keepIn X.K (.ref f) = true) (hb : KBn X.K fd ps n ks g gV) (hx : ∀ σ, PassesAt CX X σ (E σ))
    (ha : PA X (e :: es) t) (hkw : PK X kws tk) (hall : (backToKw pos (keywordEach kws X.env)).all (·.1.isSome) = true := by rfl) (hks : (backToKw pos (keywordEach kws X.env)).filterMap (·.1) = ks := by rfl)
    (hdb : (x == ("__debug__" : Str)) = false := by decide) (he : starEach (e :: es) X.env = (false, eval e X.env) :: starEach es X.env := by rfl)
    (hpl : ((backTo pos (starEach (e :: es) X.env)).any (·.1) || (backToKw pos (keywordEach kws X.env)).any (·.1.isNone)) = false := by rfl) :
    PE X (.Call (.Name x p) (e :: es) kws pos) (tCallNS n ks.length sp gV E t tk) := by
  refine ⟨fun pins s σ H Q I h => ?_⟩
  refine wpAny_Call_Name_kw (ld_glob I hg hm ?_ hdb)
  refine PySem.W.callWith_KW (h₀ := X.base) I.ok.mod.kin hk hall (thn (ha.run pos pins s σ H _ I h) fun us s1 ⟨vs, H1, I1, r, q⟩ => ?_) hpl he
  refine thn (hkw.run pos pins s1 σ H1 _ I1 q) fun ws s2 ⟨zs, H2, I2, rz, l1, l2, q2⟩ => ⟨I2.kIn, ?_⟩
  rw [hks]
  exact run_fnNS F hr hb (hx σ) I2 r rz l1 l2 q2
end
section
variable {X : Cx} {G : GG} [NoSlot G] {W : WX} {k : Nat} {f : Addr} {fd : FuncData} {ps ks : List Str} {x : Str} {p pos : Pos} {e : Expr} {es : List Expr} {kws : List Keyword} {os os2 : List Opd} {F : FV} {dfl : List D} {dvs : List V} {dd : List Value} {ix : List Nat}
theorem se_call (Fn : FnOk X.prog X.w X.K X.mg X.base (L2.CX X.prog X.w) k f fd ps (spV G os.length F)) (tk : Takes X W) (hr : Room k X.A) (hg : Gl X x) (hm : X.mg x = some (.ref f)) (hk : PySem.W.keepIn X.K (.ref f) = true) (hb : Binds X.K fd ps [])
    (ha : SOs X G W (e :: es) os) (hdb : (x == ("__debug__" : Str)) = false := by decide) (he : starEach (e :: es) X.env = (false, eval e X.env) :: starEach es X.env := by rfl) (hpl : (backTo pos (starEach es X.env)).any (·.1) = false := by rfl) :
    SE X G W (.Call (.Name x p) (e :: es) [] pos) (mCall os F) := pe_wk (pe_callS Fn hr hg hm hk hb (fun σ => passAt tk σ) ha hdb he hpl) fun σ H Q q => rdCall q
theorem se_callN (Fn : FnOk X.prog X.w X.K X.mg X.base (L2.CX X.prog X.w) k f fd ps (spV G ix.length F)) (tk : Takes X W) (hr : Room k X.A) (hg : Gl X x) (hm : X.mg x = some (.ref f)) (hk : PySem.W.keepIn X.K (.ref f) = true)
    (hb : KBn X.K fd ps os.length ks (fun us ws => permL ix (us ++ ws ++ dd)) (fun vs zs => permL ix (vs ++ zs ++ dvs))) (hd : ∀ H, RVs G H dfl dvs) (nd : ix.Nodup) (hx : ∀ i ∈ ix, i < (os ++ os2).length + dfl.length) (hl : os2.length = ks.length)
    (ha : SOs X G W (e :: es) os) (hkw : PK X kws (tOs G W os2)) (hall : (backToKw pos (keywordEach kws X.env)).all (·.1.isSome) = true := by rfl) (hks : (backToKw pos (keywordEach kws X.env)).filterMap (·.1) = ks := by rfl)
    (hdb : (x == ("__debug__" : Str)) = false := by decide) (he : starEach (e :: es) X.env = (false, eval e X.env) :: starEach es X.env := by rfl)
    (hpl : ((backTo pos (starEach (e :: es) X.env)).any (·.1) || (backToKw pos (keywordEach kws X.env)).any (·.1.isNone)) = false := by rfl) :
    SE X G W (.Call (.Name x p) (e :: es) kws pos) (mCallP (os ++ os2) dfl ix F) := pe_wk (pe_callNS Fn hr hg hm hk hb (fun σ => passAt tk σ) ha hkw hall hks hdb he hpl) fun σ H Q q =>
    tOs_mono (tOs_app (rdCallP hd nd hx q)) fun vs H1 z => tOs_mono (tOs_len z.2) fun zs H2 y => ⟨z.1, y.1.trans hl, y.2⟩
theorem pk_nilO : PK X [] (tOs G W []) := pk_nil
theorem pk_consO {nm : Option Str} {kpos : Pos} {o : Opd} (ha : SO X G W e o) (hr : PK X kws (tOs G W os)) : PK X (⟨nm, e, kpos⟩ :: kws) (tOs G W (o :: os)) := pk_cons ha hr
end
end TV
namespace TV
open PySem PySem.Spec PyProof.Rows L2
set_option maxHeartbeats 1000000 in
theorem meets_enum_one {v : Value} {o : Obj} {H : Heap → Prop} (B : Begins v o H) :
    Meets (Builtin.«enumerate.__new__» ⟨[.type "enumerate", v], []⟩) (fun _ R s => H s.heap ∧
      R (.ok (.ret (.ref (s.heap.push o).objs.size))) { s with heap := (s.heap.push o).push { cls := .type "enumerate", data := .fields #[.none, .bool false, .ref s.heap.objs.size, rawInt 0, .none, .none] } }) :=
  .of_wp fun prog w A R s h => by
    obtain ⟨hp, g, d, tk, os⟩ := s; obtain ⟨h1, h⟩ := h
    have hsub := sub_enumerate
    have q1 : ∀ {A' : Around} {E : Value → Shared → Prop} {Q : Value → Shared → Prop}, Q (.ref hp.objs.size) ⟨hp.push o, g, d, tk, os⟩ → wpAny (model prog w) A' (pyIter v) Q E ⟨hp, g, d, tk, os⟩ :=
      fun q => B.iter prog w _ _ ⟨hp, g, d, tk, os⟩ _ h1 q
    wp_walk using q1
    refine wpAny_stack_any fun st => wpAny_pure ?_
    split
    · rename_i c _ _ _ _ _
      cases (c == Value.type "enumerate")
      · wp_walk using q1
        exact ⟨_, rfl, h⟩
      · wp_walk using q1
        exact ⟨_, rfl, h⟩
    · wp_walk using q1
      exact ⟨_, rfl, h⟩
theorem enum_one {prog : Program} {w : World} {A : Around} {E : Value → Shared → Prop} {s : Shared} {v : Value} {o : Obj} {H : Heap → Prop} {Q : Value → Shared → Prop} (B : Begins v o H) (h1 : H s.heap)
    (h : ∀ h', IsEnum h' (s.heap.objs.size + 1) s.heap.objs.size 0 .none → h'.get? s.heap.objs.size = some o → h'.objs.size = s.heap.objs.size + 2 →
      (∀ b o, s.heap.get? b = some o → h'.get? b = some o) → Q (.ref (s.heap.objs.size + 1)) { s with heap := h' }) :
    wpAny (model prog w) A (call (.type "enumerate") [v]) Q E s := by
  refine callType_new F.called_enumerate (by decide) (F.typeCall_enumerate_1 _) (F.newCall_enumerate_1 _) (fun obj => F.args_object_init_2 obj _) F.entry_enumerate_new (meets_enum_one B) ⟨h1, ?_⟩
  have hz : (s.heap.push o).objs.size = s.heap.objs.size + 1 := Heap.size_push ..
  show _ ∧ _
  rw [hz]
  have he : IsEnum ((s.heap.push o).push { cls := .type "enumerate", data := .fields #[.none, .bool false, .ref s.heap.objs.size, rawInt 0, .none, .none] }) (s.heap.objs.size + 1) s.heap.objs.size 0 .none := by
    have := Heap.get?_push_size (s.heap.push o) (o := { cls := .type "enumerate", data := .fields #[.none, .bool false, .ref s.heap.objs.size, rawInt 0, .none, .none] }) rfl
    rw [hz] at this; exact this
  refine ⟨⟨_, he, rfl⟩, h _ he (Heap.get?_push_of_some _ (Heap.get?_push_size _ B.free)) (by rw [Heap.size_push, hz]) fun b o x => Heap.get?_push_of_some _ (Heap.get?_push_of_some _ x)⟩
theorem wpAny_pyNext_enum_endT {prog : Program} {w : World} {A : Around} {E : Value → Shared → Prop} {s : Shared} {e it t : Addr} {i : Nat} {items : Array Value} {old : Value} {Q : Option Value → Shared → Prop} (hh : A.handled = none)
    (he : IsEnum s.heap e it i old) (hit : s.heap.IsTupleIter it t i) (hl : s.heap.IsTuple t items) (hx : items[i]? = none)
    (hQ : ∀ h', Heap.ExtBut it s.heap h' → Q none { s with heap := h' }) : wpAny (model prog w) A (pyNext (.ref e)) Q E s := by
  have ty : s.TypeIs (.ref e) "enumerate" := ⟨_, he, rfl⟩
  unfold pyNext
  refine wpAny_bind (wpAny_attempt (wpAny_callSpecial?_slot (name := Str.ofString "__next__") ty F.slot_enumerate_next (wpAny_call_entry F.slot_enumerate_next ty F.entry_enumerate_next ?_ (F.args_enumerate_next_1 _))))
  show wpAny _ _ (field (.ref e) 2 >>= _) _ _ s
  refine wpAny_bind (wpAny_field he rfl (x := .ref it) rfl ?_)
  refine wpAny_bind (wpAny_nextOf_tuple_end (by exact hh) hit hl hx fun h2 x he2 hx2 => ?_)
  obtain ⟨o, ho, hc⟩ := hx2
  refine wpAny_bind (wpAny_isInstance (T := "StopIteration") (b := true) ⟨o, ho, hc⟩ isSubtype_stop ?_)
  exact wpAny_pure (hQ _ he2)
def ItEn (K : PySem.W.Frag) (a : Addr) : It where
  go := fun n H => ∃ (us : List V) (u : V), SqT K H a us ∧ us[n]? = some u
  yld := fun n H r H2 => ∃ p u, r = .ref p ∧ H p = none ∧ H2 = upd H p (.tup [.int (n : Nat), u]) ∧ ∀ us, SqT K H a us → us[n]? = some u
  stop := fun n H => ∃ us : List V, SqT K H a us ∧ us.length ≤ n
theorem turn_en {P : Program} {w : World} {K : PySem.W.Frag} {elts : List Expr} {kk : Nat} {tp : Pos} (a e it : Addr) :
    Turn P w K (.Tuple elts kk tp) (ItEn K a) [e, it] e (fun n h => (∃ old, IsEnum h e it ((n : Nat) : Int) old) ∧ h.IsTupleIter it a n ∧ e ≠ it) where
  mem := List.mem_cons_self
  obj := fun n h st b hb => by
    obtain ⟨⟨old, he⟩, ⟨o, ho, hc, hd⟩, _⟩ := st
    rcases List.mem_cons.mp hb with z | z
    · rw [z]
      exact ⟨_, he, fun v q => nomatch q⟩
    · rw [List.mem_singleton.mp z]
      exact ⟨o, ho, fun v q => by rw [hd] at q; cases q⟩
  keep := fun n h h2 st k => by
    obtain ⟨⟨old, he⟩, hi, hne⟩ := st
    exact ⟨⟨old, k e List.mem_cons_self _ he⟩, hi.at fun o q => k it (List.mem_cons_of_mem _ List.mem_cons_self) o q, hne⟩
  item := by
    intro X hP hw hK hc n pins s σ H E I hf st hg
    subst hP hw hK
    obtain ⟨⟨old, he⟩, hit, hne⟩ := st
    obtain ⟨us, u, hq, hu⟩ := hg
    obtain ⟨its, rv, p, hz⟩ := I.tuple hq
    obtain ⟨y, hy, ry⟩ := rv.get hu
    have ht : s.heap.IsTuple a its.toArray := p
    have hai : a ≠ it := fun z => by
      obtain ⟨o1, g1, c1, _⟩ := ht
      obtain ⟨o2, g2, c2, _⟩ := id hit
      rw [z, g2] at g1
      cases g1
      rw [c2] at c1
      injection c1 with q
      exact absurd q (by decide)
    have hea : e ∉ [it, a] := fun z => by
      rcases List.mem_cons.mp z with z | z
      · exact hne z
      · obtain ⟨o1, g1, c1, _⟩ := ht
        have g2 : s.heap.get? e = _ := he
        rw [List.mem_singleton.mp z, g1] at g2
        cases g2
        injection c1 with q
        exact absurd q (by decide)
    have hlt : n < its.toArray.size := by
      rw [List.size_toArray]
      exact (List.getElem?_eq_some_iff.mp hy).1
    have he0 : e < s.heap.objs.size := Heap.lt_size he
    have hi0 : it < s.heap.objs.size := by
      obtain ⟨o2, g2, _⟩ := id hit
      exact Heap.lt_size g2
    refine wpAny_pyNext_enum_itemC (Draws.tuple (by exact I.ok.hd hc) it a hai its.toArray) he ⟨hit, ht⟩ hlt hne hea fun x h2 tk hx ho hs2 hT hsz hk => ?_
    have ex : x = y := by
      rw [List.getElem?_toArray, hy] at hx
      exact (Option.some.inj hx).symm
    subst ex
    refine ⟨_, rfl, wpAny_letOwnedTupleGo_enum (s := { s with heap := h2, toks := tk + 1 }) ho fun h3 he3 sb => ?_⟩
    have hT3 : h3.get? s.heap.objs.size = some { cls := .type "tuple", data := .seq #[.int n tk, x] } := (sb.2 _ (Nat.ne_of_gt he0)).trans hT
    have made : ObjOk X.prog X.w (upd H s.heap.objs.size (.tup [.int (n : Nat), u])) h3 s.heap.objs.size (.tup [.int (n : Nat), u]) :=
      ⟨by show 2 ≤ sizeLine; decide, [.int n tk, x], .cons ⟨_, rfl⟩ (.cons ry .nil), ⟨_, hT3, rfl, _, rfl⟩⟩
    have I3 : Inv X pins σ (upd H s.heap.objs.size (.tup [.int (n : Nat), u])) { s with heap := h3, toks := tk + 1 } :=
      I.turnedNew (ch := [e, it]) (fun b o nb q => (sb.2 b fun z => nb (by rw [z]; exact List.mem_cons_self)).trans (hk b o (fun z => nb (by rw [z]; exact List.mem_cons_self)) (fun z => nb (by rw [z]; exact List.mem_cons_of_mem _ List.mem_cons_self)) q)) hf (Nat.le_refl _) made
    refine ⟨.ref s.heap.objs.size, _, I3, rfl, ⟨_, u, rfl, I.hok.fresh (Nat.le_refl _), rfl, fun ys q => by rw [I.tuple_inj q hq]; exact hu⟩, ⟨⟨x, ?_⟩, hs2.1.at fun o q => (sb.2 it (Ne.symm hne)).trans q, hne⟩, fun b hb => ?_⟩
    · have en : ((n + 1 : Nat) : Int) = (n : Int) + 1 := by omega
      rw [en]
      exact he3
    · have hlb : b < s.heap.objs.size := by
        rcases List.mem_cons.mp hb with z | z
        · rw [z]; exact he0
        · rw [List.mem_singleton.mp z]; exact hi0
      rw [upd_ne (Nat.ne_of_lt hlb)]
      exact (hf b hb).1
  done := by
    intro X hP hw hK hc n pins s σ H E I hf st hg
    subst hP hw hK
    obtain ⟨⟨old, he⟩, hit, hne⟩ := st
    obtain ⟨us, hq, hu⟩ := hg
    obtain ⟨its, rv, p, hz⟩ := I.tuple hq
    have ht : s.heap.IsTuple a its.toArray := p
    obtain ⟨f0, f1, f2, f3, f4, f5⟩ := hf it (List.mem_cons_of_mem _ List.mem_cons_self)
    have hl := rv.length
    exact wpAny_pyNext_enum_endT (I.ok.hd hc) he hit ht (by rw [List.getElem?_toArray]; exact List.getElem?_eq_none (by omega)) fun h2 eb => ⟨rfl, I.turned (t' := s.toks) (fun b o hb q => eb b o hb q) f0 f1 f3 f4 f5⟩
  self := fun A n s Q E st h => by
    obtain ⟨⟨_, he⟩, _⟩ := st
    exact wpAny_pyIter_enum he h
def enD : Nat → List D → List D
  | _, [] => []
  | i, d :: ds => .tup [.int (i : Nat), d] :: enD (i + 1) ds
theorem enD_len : ∀ {ds : List D} {i : Nat}, (enD i ds).length = ds.length
  | [], _ => rfl
  | _ :: ds, i => congrArg Nat.succ (enD_len (ds := ds))
theorem enD_get {d : D} : ∀ {ds : List D} {i j : Nat}, (enD i ds)[j]? = some d → ∃ x, ds[j]? = some x ∧ d = .tup [.int ((i + j : Nat)), x]
  | [], _, _, h => by cases h
  | x :: ds, i, 0, h => by cases h; exact ⟨x, rfl, rfl⟩
  | x :: ds, i, j + 1, h => by
    obtain ⟨y, h1, h2⟩ := enD_get (ds := ds) (i := i + 1) (j := j) h
    exact ⟨y, h1, by rw [h2]; congr 4; omega⟩
theorem itis_en_yld {G : GG} [NoSlot G] {H H' : Hp} {p : Addr} {n : Nat} {u : V} {d x : D} {ds : List D} (hp : H p = none) (e : H' = upd H p (.tup [.int (n : Nat), u])) (hd : (enD 0 ds)[n]? = some d) (hx : ds[n]? = some x) (r : RV G H x u) : Same H H' ∧ Y2 G H' d (.ref p) := by
  subst e
  have sm : Same H (upd H p (.tup [.int (n : Nat), u])) := fun b o hb => by
    rw [upd_ne (fun z => by subst z; rw [hp] at hb; cases hb)]
    exact hb
  obtain ⟨y, h1, rfl⟩ := enD_get hd
  rw [hx] at h1
  cases h1
  rw [Nat.zero_add]
  exact ⟨sm, _, p, _, rfl, rfl, SqT.of upd_same, .cons (.int _) (.cons (r.mono (.same sm)) .nil)⟩
theorem itis_enl {G : GG} [NoSlot G] {a : Addr} {vs : List V} {ds : List D} : ItIs G (Ite G.K a) (Y2 G) (enD 0 ds) (Sls G a vs ds) where
  stay := fun _ _ _ _ _ _ s re f => s.stay re f
  off := fun _ _ _ _ s1 h _ _ _ _ _ s hu fu => s1.off h s hu fu
  go := fun ρ σ H j s h => by
    rw [enD_len] at h
    obtain ⟨v, e, _⟩ := s.1.get (List.getElem?_eq_getElem h)
    exact ⟨vs, v, s.sql, e⟩
  stop := fun ρ σ H j s h => ⟨vs, s.sql, by rw [← s.1.length, ← enD_len (i := 0)]; exact h⟩
  yld := fun ρ σ H j x H' d s re y e => by
    obtain ⟨p, u, rfl, hp, eh, y⟩ := y
    obtain ⟨x, hx, _⟩ := enD_get e
    obtain ⟨v, e1, r⟩ := s.1.get hx
    have := y vs s.sql
    rw [e1] at this
    cases this
    exact itis_en_yld hp eh e hx r
theorem itis_ent {G : GG} [NoSlot G] {a : Addr} {vs : List V} {ds : List D} : ItIs G (ItEn G.K a) (Y2 G) (enD 0 ds) (Slt G a vs ds) where
  stay := fun _ _ _ _ _ _ s re f => s.stay re f
  off := fun _ _ _ _ _ _ _ _ _ _ _ s hu fu => s.off hu fu
  go := fun ρ σ H j s h => by
    rw [enD_len] at h
    obtain ⟨v, e, _⟩ := s.1.get (List.getElem?_eq_getElem h)
    exact ⟨vs, v, s.2.sqt, e⟩
  stop := fun ρ σ H j s h => ⟨vs, s.2.sqt, by rw [← s.1.length, ← enD_len (i := 0)]; exact h⟩
  yld := fun ρ σ H j x H' d s re y e => by
    obtain ⟨p, u, rfl, hp, eh, y⟩ := y
    obtain ⟨x, hx, _⟩ := enD_get e
    obtain ⟨v, e1, r⟩ := s.1.get hx
    have := y vs s.2.sqt
    rw [e1] at this
    cases this
    exact itis_en_yld hp eh e hx r
def iEnA (K : PySem.W.Frag) (ta : TA) : TI := fun σ H R => ta σ H fun vs H1 => ∃ a, vs = [.ref a] ∧ (((∃ xs, SqL K H1 a xs) ∧ R (Ite K a) H1) ∨ ((∃ xs, SqT K H1 a xs) ∧ R (ItEn K a) H1))
theorem pi_enA {X : Cx} {e : Expr} {ta : TA} {p pos tpos : Pos} {elts : List Expr} {kk : Nat} (hg : Gl X "enumerate") (hm : X.mg "enumerate" = none) (ha : PA X [e] ta) (hs : starEach [e] X.env = [(false, eval e X.env)] := by rfl) :
    PI X (.Tuple elts kk tpos) (.Call (.Name "enumerate" p) [e] [] pos) (iEnA X.K ta) := by
  refine ⟨fun pins s σ H R I h => ?_⟩
  refine Call_ (ld_blt I hg hm boot_enumerate (PyProof.Rows.callWith_type1 (thn (ha.run pos pins s σ H _ I h) fun us s1 ⟨vs, H1, I1, r1, q1⟩ => ?_) hs rfl))
  obtain ⟨a, ex, q⟩ := q1
  subst ex
  cases r1 with
  | cons r rr =>
    cases rr
    cases r
    have fp : ∀ b ∈ [s1.heap.objs.size + 1, s1.heap.objs.size], FpOk X pins H1 b := fun b hb => by
      have hle : s1.heap.objs.size ≤ b := by
        rcases List.mem_cons.mp hb with z | z
        · rw [z]; exact Nat.le_succ _
        · rw [List.mem_singleton.mp z]; exact Nat.le_refl _
      exact I1.fpOk hle (I1.hok.fresh hle)
    rcases q with ⟨⟨xs, hq⟩, q⟩ | ⟨⟨xs, hq⟩, q⟩
    · obtain ⟨its, rv, pl, hz⟩ := I1.list hq
      refine enum_one (begins_list a its.toArray) pl.isList fun h2 he ho hsz hk => wpAny_pyIter_enum he ?_
      have I2 : Inv X pins σ H1 { s1 with heap := h2 } := I1.kept (t' := s1.toks) hk
      exact ⟨s1.heap.objs.size + 1, [s1.heap.objs.size + 1, s1.heap.objs.size], _, _, H1, rfl, I2, turn_enum a (s1.heap.objs.size + 1) s1.heap.objs.size, ⟨⟨.none, he⟩, ⟨_, ho, rfl, rfl⟩, Nat.succ_ne_self _⟩, fp, q⟩
    · obtain ⟨its, rv, pl, hz⟩ := I1.tuple hq
      refine enum_one (begins_tuple a its.toArray) (by exact pl) fun h2 he ho hsz hk => wpAny_pyIter_enum he ?_
      have I2 : Inv X pins σ H1 { s1 with heap := h2 } := I1.kept (t' := s1.toks) hk
      exact ⟨s1.heap.objs.size + 1, [s1.heap.objs.size + 1, s1.heap.objs.size], _, _, H1, rfl, I2, turn_en a (s1.heap.objs.size + 1) s1.heap.objs.size, ⟨⟨.none, he⟩, ⟨_, ho, rfl, rfl⟩, Nat.succ_ne_self _⟩, fp, q⟩
def dEnum (d : D) : Option (List D) := d.seq.map (enD 0)
theorem rdEnum {G : GG} [NoSlot G] {W : WX} {m : ME} {σ : L2.St} {H : Hp} {R : It → Hp → Prop} (q : rdI G W (Y2 G) (mI1 m dEnum) σ H R) : iEnA G.K (tCons (rdE G W m) tNil) σ H R := by
  obtain ⟨ρ, re, q⟩ := q
  refine ⟨ρ, re, ?_⟩
  have q : postI G W (Y2 G) ρ σ H R ((m ρ).bind (kSeqI dEnum)) := q
  cases e : m ρ with
  | exc c w ρ' => rw [e] at q; exact q
  | stuck => rw [e] at q; exact q
  | ok p =>
    rw [e] at q
    obtain ⟨d, ρ1⟩ := p
    intro v H1 r1 f1 s
    have q : postI G W (Y2 G) ρ σ H R (match dEnum d with | some ds => .ok (ds, ρ1) | none => .stuck) := q
    cases e2 : dEnum d with
    | none => rw [e2] at q; exact q.elim
    | some es =>
      rw [e2] at q
      have q3 : ∀ J H1 S, RE G ρ1 σ H1 → Fr ρ σ H ρ1 σ H1 → ItIs G J (Y2 G) es S → S ρ1 σ H1 → R J H1 := q
      unfold dEnum at e2
      rw [Option.map_eq_some_iff] at e2
      obtain ⟨ds, e3, rfl⟩ := e2
      cases d with
      | tup es =>
        cases e3
        obtain ⟨a, vs, rfl, ts, rv⟩ := s.1.tupOf
        exact ⟨a, rfl, .inr ⟨⟨vs, ts.sqt⟩, q3 _ H1 (Slt G a vs _) r1 f1 itis_ent ⟨rv, ts⟩⟩⟩
      | frl es =>
        cases e3
        cases s.1.rv rfl with
        | frl h rv => exact ⟨_, rfl, .inl ⟨⟨_, h.sql⟩, q3 _ H1 (Sls G _ _ _) r1 f1 itis_enl ⟨rv, .inl h⟩⟩⟩
      | lst es =>
        cases e3
        obtain ⟨a, vs, rfl, h, rv⟩ := s.1
        exact ⟨a, rfl, .inl ⟨⟨vs, SqL.of h⟩, q3 _ H1 (Sls G a vs _) r1 f1 itis_enl ⟨rv, .inr ⟨h, (s.2 a rfl rfl).1⟩⟩⟩⟩
      | _ => cases e3
theorem si_enum {X : Cx} {G : GG} [NoSlot G] {W : WX} {e : Expr} {m : ME} {p pos tpos : Pos} {elts : List Expr} {kk : Nat} (c : CT X G W) (hg : Gl X "enumerate") (hm : X.mg "enumerate" = none) (h : SE X G W e m) (hs : starEach [e] X.env = [(false, eval e X.env)] := by rfl) :
    SI X G W (.Tuple elts kk tpos) (.Call (.Name "enumerate" p) [e] [] pos) (Y2 G) (mI1 m dEnum) := pi_wk (pi_enA hg hm (pa_cons h pa_nil hs) hs) fun σ H R q => by
  rw [← c.k]
  exact rdEnum q
end TV
namespace TV
open PySem PySem.Spec PyProof.Rows L2
def leP (a b : Int × Int) : Prop := a.1 < b.1 ∨ (a.1 = b.1 ∧ a.2 ≤ b.2)
instance {a b : Int × Int} : Decidable (leP a b) := inferInstanceAs (Decidable (_ ∨ _))
theorem leP_anti {a b : Int × Int} (h1 : leP a b) (h2 : leP b a) : a = b := by
  unfold leP at h1 h2
  have e1 : a.1 = b.1 := by omega
  have e2 : a.2 = b.2 := by omega
  exact Prod.ext e1 e2
theorem leP_trans {a b c : Int × Int} (h1 : leP a b) (h2 : leP b c) : leP a c := by
  unfold leP at h1 h2 ⊢
  omega
theorem leP_total (a b : Int × Int) (h : ¬ leP a b) : leP b a := by
  unfold leP at h ⊢
  omega
def insP (x : Int × Int) : List (Int × Int) → List (Int × Int)
  | [] => [x]
  | y :: ys => if leP x y then x :: y :: ys else y :: insP x ys
def sortP : List (Int × Int) → List (Int × Int)
  | [] => []
  | x :: xs => insP x (sortP xs)
theorem insP_perm (x : Int × Int) : ∀ ys, (insP x ys).Perm (x :: ys)
  | [] => .refl _
  | y :: ys => by
    unfold insP
    split
    · exact .refl _
    · exact ((insP_perm x ys).cons y).trans (.swap x y ys)
theorem sortP_perm : ∀ xs, (sortP xs).Perm xs
  | [] => .refl _
  | x :: xs => (insP_perm x _).trans ((sortP_perm xs).cons x)
theorem insP_sorted (x : Int × Int) : ∀ {ys : List (Int × Int)}, ys.Pairwise leP → (insP x ys).Pairwise leP
  | [], _ => List.pairwise_singleton _ _
  | y :: ys, h => by
    unfold insP
    have h' := List.pairwise_cons.mp h
    split
    · rename_i c
      refine List.pairwise_cons.mpr ⟨fun z hz => ?_, h⟩
      rcases List.mem_cons.mp hz with e | m
      · rw [e]; exact c
      · exact leP_trans c (h'.1 z m)
    · rename_i c
      refine List.pairwise_cons.mpr ⟨fun z hz => ?_, insP_sorted x h'.2⟩
      rcases List.mem_cons.mp ((insP_perm x ys).mem_iff.mp hz) with e | m
      · rw [e]; exact leP_total _ _ c
      · exact h'.1 z m
theorem sortP_sorted : ∀ xs : List (Int × Int), (sortP xs).Pairwise leP
  | [] => List.Pairwise.nil
  | x :: xs => insP_sorted x (sortP_sorted xs)
theorem sortP_uniq {ys xs : List (Int × Int)} (p : ys.Perm xs) (h : ys.Pairwise leP) : ys = sortP xs :=
  List.Perm.eq_of_pairwise (fun _ _ _ _ h1 h2 => leP_anti h1 h2) h (sortP_sorted xs) (p.trans (sortP_perm xs).symm)
def dPair : D → Option (Int × Int)
  | .tup [.int i, .int j] => some (i, j)
  | _ => none
def dPairs : List D → Option (List (Int × Int))
  | [] => some []
  | d :: ds => match dPair d, dPairs ds with
    | some p, some ps => some (p :: ps)
    | _, _ => none
def pD (p : Int × Int) : D := .tup [.int p.1, .int p.2]
theorem dPair_eq {d : D} {p : Int × Int} (h : dPair d = some p) : d = pD p := by
  unfold dPair at h
  split at h
  · cases h; rfl
  · cases h
theorem dPairs_eq : ∀ {ds : List D} {ps : List (Int × Int)}, dPairs ds = some ps → ds = ps.map pD
  | [], _, h => by cases h; rfl
  | d :: ds, ps, h => by
    unfold dPairs at h
    split at h
    · rename_i p qs e1 e2
      cases h
      rw [List.map_cons, dPair_eq e1, dPairs_eq e2]
    · cases h
def rSortP (K : PySem.W.Frag) : List V → Hp → VK → Prop := fun vs H Q => ∃ (a : Addr) (xs : List V) (k : V → Int × Int), vs = [V.ref a] ∧ SqL K H a xs ∧ (∀ x ∈ xs, ∃ t, x = V.ref t ∧ SqT K H t [.int (k x).1, .int (k x).2]) ∧
  ∀ ys p, (∀ t us ws, SqT K H t us → SqT K H t ws → us = ws) → SrtO.Srtd (ltP k) ys → SrtO.Stb (ltP k) ys xs → H p = none → Q (.ref p) (upd H p (.lst ys))
theorem cr_sortP {X : Cx} : CallR X (.builtin "sorted") (rSortP X.K) := by
  rintro pins s σ H vs us Q I r ⟨a, xs, k, rfl, hs, hx, q⟩
  obtain ⟨it, rv, hl, hz⟩ := I.list hs
  rw [Vals.ref1 r]
  obtain ⟨e1, e2⟩ := refs_back rv fun x m => by
    obtain ⟨t, e, _⟩ := hx x m
    exact ⟨t, e⟩
  refine SrtO.sorted_pairsO (k := fun u => k (backV u)) hl.isList (by rw [← rv.length]; exact hz) (fun v hv => ?_) fun h2 d out g1 g2 kp hd hn => ?_
  · obtain ⟨t, rfl⟩ := e2 v hv
    have hm : V.ref t ∈ xs := by rw [e1]; exact List.mem_map.mpr ⟨_, hv, rfl⟩
    obtain ⟨t2, e, ht⟩ := hx _ hm
    cases e
    obtain ⟨jt, r2, ⟨o, ho, hc, n, hd⟩, _⟩ := I.tuple ht
    obtain ⟨u1, u2, rfl, ri, rj⟩ := vals2 r2
    obtain ⟨t1, rfl⟩ := ri
    obtain ⟨t2, rfl⟩ := rj
    exact ⟨t, o, t1, t2, n, rfl, ho, hc, hd⟩
  · have h3 : ∀ u ∈ out, ∃ a, u = Value.ref a := fun u hu => e2 u (g2.perm.mem_iff.mp hu)
    obtain ⟨n, hn⟩ := hn
    have hb : SrtO.Stb (ltP k) (out.map backV) xs := by
      rw [e1]
      exact SrtO.Stb.map (ltP_swo k) backV g2
    refine ⟨.ref d, upd H d (.lst (out.map backV)), I.laid (t' := s.toks) kp hd ⟨?_, out, n, vals_back h3, hn⟩, rfl, q _ d (fun t us ws => I.tuple_inj) (SrtO.srtd_map g1) hb (I.hok.fresh hd)⟩
    rw [hb.len]
    exact hz
def dSortP : List D → Option D
  | [.lst ds] => (dPairs ds).map fun ps => .lst ((sortP ps).map pD)
  | [.frl ds] => (dPairs ds).map fun ps => .lst ((sortP ps).map pD)
  | _ => none
open Classical in
theorem vn_sortP {G : GG} [NoSlot G] : VN G 1 (rSortP G.K) dSortP := VN.one fun H x d z Q h ef g => by
  have main : ∀ {ds : List D} {a : Addr} {vs : List V} {ps : List (Int × Int)}, SqL G.K H a vs → RVs G H ds vs → dPairs ds = some ps → z = .lst ((sortP ps).map pD) → rSortP G.K [V.ref a] H Q := fun {ds a vs ps} s r e1 e2 => by
    let k : V → Int × Int := fun v => if c : ∃ p : Int × Int, RV G H (pD p) v then c.choose else (0, 0)
    have hk : ∀ {p : Int × Int} {v : V}, RV G H (pD p) v → ∃ t, v = .ref t ∧ SqT G.K H t [.int (k v).1, .int (k v).2] ∧ RV G H (pD (k v)) v := fun {p v} rv => by
      have c : ∃ p : Int × Int, RV G H (pD p) v := ⟨p, rv⟩
      have e : k v = c.choose := dif_pos c
      have rk : RV G H (pD (k v)) v := by rw [e]; exact c.choose_spec
      obtain ⟨t, ws, rfl, ts, rw'⟩ := (RV.rs rk).tupOf
      refine ⟨t, rfl, ?_, rk⟩
      cases rw' with
      | cons r1 rr =>
        cases rr with
        | cons r2 rr =>
          cases rr
          cases r1
          cases r2
          exact ts.sqt
    have all : ∀ {ds : List D} {vs : List V} {ps : List (Int × Int)}, RVs G H ds vs → dPairs ds = some ps → (∀ v ∈ vs, ∃ p, RV G H (pD p) v) := fun {ds vs ps} r e v hv => by
      obtain ⟨i, hi⟩ := List.mem_iff_getElem?.mp hv
      obtain ⟨d, hd, rv⟩ := r.getV hi
      rw [dPairs_eq e, List.getElem?_map, Option.map_eq_some_iff] at hd
      obtain ⟨p, _, rfl⟩ := hd
      exact ⟨p, rv⟩
    have hall := all r e1
    refine ⟨a, vs, k, rfl, s, fun x hx => ?_, fun ys p inj h1 h2 hp => ?_⟩
    · obtain ⟨q, rq⟩ := hall x hx
      obtain ⟨t, e, st, _⟩ := hk rq
      exact ⟨t, e, st⟩
    · have hys : ∀ v ∈ ys, RV G H (pD (k v)) v := fun v hv => by
        obtain ⟨q, rq⟩ := hall v (h2.perm.mem_iff.mp hv)
        exact (hk rq).choose_spec.2.2
      have rys : ∀ l : List V, (∀ v ∈ l, RV G H (pD (k v)) v) → RVs G H ((l.map k).map pD) l := fun l => by
        induction l with
        | nil => exact fun _ => .nil
        | cons v l ih => exact fun h => .cons (h v List.mem_cons_self) (ih fun w hw => h w (List.mem_cons_of_mem _ hw))
      -- the keys of the values are the pairs themselves
      have same : ∀ {p : Int × Int} {v : V}, RV G H (pD p) v → k v = p := fun {p v} rv => by
        obtain ⟨t, e, st, _⟩ := hk rv
        obtain ⟨t2, ws, e2, ts, rw'⟩ := (RV.rs rv).tupOf
        rw [e] at e2
        cases e2
        cases rw' with
        | cons r1 rr =>
          cases rr with
          | cons r2 rr =>
            cases rr
            cases r1
            cases r2
            have := inj _ _ _ st ts.sqt
            injection this with i1 i2
            injection i2 with i2 _
            injection i1 with i1
            injection i2 with i2
            exact Prod.ext i1 i2
      have keys : ∀ {vs : List V} {ps : List (Int × Int)}, RVs G H (ps.map pD) vs → vs.map k = ps := fun {vs ps} => by
        induction ps generalizing vs with
        | nil => exact fun r => by cases r; rfl
        | cons q ps ih =>
          intro r
          cases r with
          | cons r1 rr => rw [List.map_cons, same r1, ih rr]
      have ek : vs.map k = ps := keys (by rw [← dPairs_eq e1]; exact r)
      have e3 : ys.map k = sortP ps := by
        refine sortP_uniq (by rw [← ek]; exact h2.perm.map k) ?_
        refine List.pairwise_map.mpr (List.Pairwise.imp (fun {x y} hxy => ?_) h1)
        have := SrtO.lexB_no.mp hxy
        unfold leP
        omega
      have fin := rys ys hys
      rw [e3] at fin
      subst e2
      exact g.lst fin p hp
  cases d with
  | lst ds =>
    have ef : (dPairs ds).map (fun ps => D.lst ((sortP ps).map pD)) = some z := ef
    rw [Option.map_eq_some_iff] at ef
    obtain ⟨ps, e1, e2⟩ := ef
    obtain ⟨a, vs, rfl, s, r⟩ := h.lstOf
    exact main (SqL.of s) r e1 e2.symm
  | frl ds =>
    have ef : (dPairs ds).map (fun ps => D.lst ((sortP ps).map pD)) = some z := ef
    rw [Option.map_eq_some_iff] at ef
    obtain ⟨ps, e1, e2⟩ := ef
    obtain ⟨a, vs, rfl, s, r⟩ := h.frlOf
    exact main s r e1 e2.symm
  | _ => cases ef
section
variable {X : Cx} {G : GG} [NoSlot G] {W : WX} {pos p : Pos} {a b : Expr} {oa ob : Opd}
theorem VN.or {n : Nat} {r r' : List V → Hp → VK → Prop} {f f' : List D → Option D} (h : VN G n r f) (k : VN G n r' f') : VN G n (fun xs H Q => r xs H Q ∨ r' xs H Q) (fun l => match f l with | some z => some z | none => f' l) := fun H vs ds z Q ln rs e g => by
  have e : (match f ds with | some z => some z | none => f' ds) = some z := e
  cases q : f ds with
  | some y => rw [q] at e; cases e; exact .inl (h H vs ds _ Q ln rs q g)
  | none => rw [q] at e; exact .inr (k H vs ds _ Q ln rs e g)
def dOr (f f' : List D → Option D) : List D → Option D := fun l => match f l with
  | some z => some z
  | none => f' l
def dSort : List D → Option D := dOr dSortL (dOr dSortT (dOr dSortK dSortP))
theorem se_max2 (c : CT X G W) (hm : X.mg "max" = none) (ha : SO X G W a oa) (hb : SO X G W b ob) (hg : Gl X "max" := by rfl) (he : starEach [a, b] X.env = (false, eval a X.env) :: starEach [b] X.env := by rfl) (hf : starEach [b] X.env = (false, eval b X.env) :: starEach [] X.env := by rfl) : SE X G W (.Call (.Name "max" p) [a, b] [] pos) (mOp [oa, ob] dMax2) :=
  se_callB (call_max2 (c.calm (NoSlot.c (G := G)))) vn_max2 hg hm boot_max (so_cons ha (so_cons hb so_nil hf) he) (by decide) (by decide) he (by rw [hf]; rfl)
theorem se_sum (c : CT X G W) (hm : X.mg "sum" = none) (ha : SO X G W a oa) (hg : Gl X "sum" := by rfl) (he : starEach [a] X.env = (false, eval a X.env) :: starEach [] X.env := by rfl) : SE X G W (.Call (.Name "sum" p) [a] [] pos) (mOp [oa] dSum) :=
  se_callB (r := rSum G.K) (by rw [c.k]; exact cr_sum (c.calm (NoSlot.c (G := G)))) vn_sum hg hm boot_sum (so_cons ha so_nil he) (by decide) (by decide) he
theorem se_sort (c : CT X G W) (hm : X.mg "sorted" = none) (ha : SO X G W a oa) (hg : Gl X "sorted" := by rfl) (he : starEach [a] X.env = (false, eval a X.env) :: starEach [] X.env := by rfl) : SE X G W (.Call (.Name "sorted" p) [a] [] pos) (mOp [oa] dSort) :=
  se_callB (r := fun xs H Q => rSortedI G.K xs H Q ∨ (rSortT G.K xs H Q ∨ (rSortK xs H Q ∨ rSortP G.K xs H Q))) (by rw [c.k]; exact cr_sortedI.or (cr_sortT.or ((call_sortedDI (c.calm (NoSlot.c (G := G)))).or cr_sortP))) (vn_sortL.or (vn_sortT.or (vn_sortK.or vn_sortP))) hg hm boot_sorted (so_cons ha so_nil he) (by decide) (by decide) he
theorem se_intOf (hm : X.mg "int" = none) (ha : SO X G W a oa) (hg : Gl X "int" := by rfl) (he : starEach [a] X.env = (false, eval a X.env) :: starEach [] X.env := by rfl) : SE X G W (.Call (.Name "int" p) [a] [] pos) (mOp [oa] dInt) :=
  se_callT (call_int1) vn_int hg hm boot_int (so_cons ha so_nil he) (by decide) (by decide) he
theorem se_tupOf (c : CT X G W) (hm : X.mg "tuple" = none) (ha : SO X G W a oa) (hg : Gl X "tuple" := by rfl) (he : starEach [a] X.env = (false, eval a X.env) :: starEach [] X.env := by rfl) : SE X G W (.Call (.Name "tuple" p) [a] [] pos) (mOp [oa] dTupOf) :=
  se_callT (r := rTupF G.K) (by rw [c.k]; exact call_tupF) vn_tupOf hg hm boot_tuple (so_cons ha so_nil he) (by decide) (by decide) he
theorem se_lstOf (c : CT X G W) (hm : X.mg "list" = none) (ha : SO X G W a oa) (hg : Gl X "list" := by rfl) (he : starEach [a] X.env = (false, eval a X.env) :: starEach [] X.env := by rfl) : SE X G W (.Call (.Name "list" p) [a] [] pos) (mOp [oa] dLstOf) :=
  se_callT (r := fun xs H Q => ∃ p ys, xs = [.ref p] ∧ (SqL G.K H p ys ∨ SqT G.K H p ys) ∧ ∀ l, H l = none → Q (.ref l) (upd H l (.lst ys))) (by rw [c.k]; exact call_list_of) vn_lstOf hg hm boot_list (so_cons ha so_nil he) (by decide) (by decide) he
end
end TV
namespace TV
open PySem PySem.Spec PyProof.Rows L2
structure FnH (P : Program) (w : World) (K : PySem.W.Frag) (mg : Str → Option Value) (base : Heap) (G : GG) (k : Nat) (x : Str) (ps : List Str) (F : FV) : Prop where
  ex : ∃ f fd, FnOk P w K mg base (L2.CX P w) k f fd ps (spV G ps.length F) ∧ mg x = some (.ref f) ∧ PySem.W.keepIn K (.ref f) = true ∧ Binds K fd ps []
section
variable {X : Cx} {G : GG} [NoSlot G] {W : WX} {j k : Nat} {ps : List Str} {x : Str} {p pos : Pos} {e : Expr} {es : List Expr} {os : List Opd} {F : FV}
theorem se_fn (h : FnH X.prog X.w X.K X.mg X.base G j x ps F) (hl : os.length = ps.length) (hj : j ≤ k) (tk : Takes X W) (hr : Room k X.A) (ha : SOs X G W (e :: es) os) (hg : Gl X x := by rfl)
    (hdb : (x == ("__debug__" : Str)) = false := by decide) (he : starEach (e :: es) X.env = (false, eval e X.env) :: starEach es X.env := by rfl) (hpl : (backTo pos (starEach es X.env)).any (·.1) = false := by rfl) :
    SE X G W (.Call (.Name x p) (e :: es) [] pos) (mCall os F) := by
  obtain ⟨f, fd, ok, hm, hk, hb⟩ := h.ex
  rw [← hl] at ok
  exact se_call (ok.mono hj) tk hr hg hm hk hb ha hdb he hpl
theorem ct_body {P : Program} {w : World} {K : PySem.W.Frag} {mg : Str → Option Value} {base : Heap} {G : GG} [NoSlot G] {N ps : List Str} {qual : Str} {scope : Scope} {f : Addr} {cd : Value} {A : Around} {outer : List PySem.Env} {s : Shared} {H : Hp} {E : XK} {k : Nat} (hG : G.K = K) (sc : FnScope N ps scope) (hr : Room k (A.deeper (envOfC qual scope s.heap.objs.size f cd))) :
    CT (cxOf CX0 P w K mg base N qual scope f cd A outer s H E).nox G WF := ⟨hG, fun _ => rfl, takesF, PassesOwn.never, sc.nd, hr.units, hr.gd⟩
theorem ct_bodyX {P : Program} {w : World} {K : PySem.W.Frag} {mg : Str → Option Value} {base : Heap} {G : GG} [NoSlot G] {N ps : List Str} {qual : Str} {scope : Scope} {f : Addr} {cd : Value} {A : Around} {outer : List PySem.Env} {s : Shared} {H : Hp} {E : XK} {k : Nat} (hG : G.K = K) (sc : FnScope N ps scope) (hr : Room k (A.deeper (envOfC qual scope s.heap.objs.size f cd))) :
    CT (cxOf (L2.CX P w) P w K mg base N qual scope f cd A outer s H E) G (WD E) := ⟨hG, fun _ => rfl, takes_of rfl rfl rfl rfl, passes_of rfl, sc.nd, hr.units, hr.gd⟩
end
end TV
namespace TV
open PySem PySem.Spec PyProof.Rows L2
section
variable {X : Cx} {G : GG} [NoSlot G] {W : WX} {c' a b : Expr} {pos : Pos}
def kIfT (a b : MT) : Bool → MT
  | true => a
  | false => b
end
end TV
namespace TV
open PySem PySem.Spec PyProof.Rows L2
def preM : List MS → Env → Option Env
  | [], ρ => some ρ
  | m :: ms, ρ => match m ρ with
    | .ok (.nx, ρ1) => preM ms ρ1
    | _ => none
structure SameT (H H' : Hp) : Prop where
  ob : ∀ b o, H b = some o → tabO o = false → H' b = some o
  tb : ∀ b o, H b = some o → tabO o = true → ∃ o', H' b = some o' ∧ tabO o' = true
  tab : ∀ P, TabN H P → TabN H' P
theorem SameT.stays {H H' : Hp} (k : SameT H H') {b : Addr} {o : HO} (h : H b = some o) : ∃ o', H' b = some o' := by
  cases t : tabO o with
  | false => exact ⟨o, k.ob b o h t⟩
  | true =>
    obtain ⟨o', h', _⟩ := k.tb b o h t
    exact ⟨o', h'⟩
theorem SameT.same {H H' : Hp} (k : ∀ b o, H b = some o → H' b = some o) : SameT H H' := ⟨fun b o h _ => k b o h, fun b o h t => ⟨o, k b o h, t⟩, fun _ z => z.ext k⟩
theorem SameT.trans {H H1 H2 : Hp} (a : SameT H H1) (b : SameT H1 H2) : SameT H H2 := ⟨fun c o h t => b.ob c o (a.ob c o h t) t, fun c o h t => by
  obtain ⟨o', h', t'⟩ := a.tb c o h t
  exact b.tb c o' h' t', fun P z => b.tab P (a.tab P z)⟩
theorem SameT.fix {H H' : Hp} (k : SameT H H') : Fix H H' := ⟨fun b o h f => k.ob b o h (fix_tab f), k.tab⟩
theorem SameT.fr {ρ : TV.Env} {σ : L2.St} {H H' : Hp} (k : SameT H H') : Fr ρ σ H ρ σ H' := ⟨fun b o h t _ => k.ob b o h t, fun _ _ _ n => n, k.tb, k.tab⟩
theorem RE.sameT {G : GG} {ρ : TV.Env} {σ : L2.St} {H H' : Hp} (r : RE G ρ σ H) (k : SameT H H') : RE G ρ σ H' :=
  ⟨r.len, fun i d e => by
    obtain ⟨v, e1, q⟩ := r.val i d e
    exact ⟨v, e1, q.keep k.fix fun a o _ _ h m => k.ob a o h m.tab⟩, r.sep, G.pinOk H H' k.fix r.pin, r.spin⟩
theorem Fr.sameT {ρ ρ' : TV.Env} {σ σ' : L2.St} {H H' : Hp} (f : Fr ρ σ H ρ' σ' H') (n : ∀ a, ¬ own ρ σ a) : SameT H H' := ⟨fun b o h t => f.ob b o h t (n b), f.tb, f.tab⟩
def spI (G : GG) (c N n : Nat) (ms : List MS) (l : List (Str × Nat)) : Sp := fun vs H Q _ => ∃ (x dx : Addr) (H0 : Hp) (ds : List D) (us : List V), vs = .ref x :: us ∧ vs.length = n ∧ G.pin H0 ∧ H0 x = none ∧ H0 dx = none ∧ dx ≠ x ∧ H = upd (upd H0 dx (.own x)) x (.ins (G.cl c) dx []) ∧ RVs G H0 ds us ∧
  (∃ ρ', preM ms (padE N (none :: ds.map some)) = some ρ') ∧ ∀ H', H' x = some (.ins (G.cl c) dx ((l.map (·.1)).zip (permL (l.map (·.2)) vs))) → SameT H0 H' → Q .non H'
end TV
namespace TV
open PySem PySem.Spec PyProof.Rows L2
structure FnKw (P : Program) (w : World) (K : PySem.W.Frag) (mg : Str → Option Value) (base : Heap) (G : GG) (k : Nat) (x : Str) (ps : List Str) (F : FV) (n : Nat) (ks : List Str) (ix : List Nat) (dvs : List V) : Prop where
  ex : ∃ f fd dd, FnOk P w K mg base (L2.CX P w) k f fd ps (spV G ps.length F) ∧ mg x = some (.ref f) ∧ PySem.W.keepIn K (.ref f) = true ∧ KBn K fd ps n ks (fun us ws => permL ix (us ++ ws ++ dd)) (fun vs zs => permL ix (vs ++ zs ++ dvs))
structure FnMk (P : Program) (w : World) (K : PySem.W.Frag) (mg : Str → Option Value) (base : Heap) (G : GG) (k : Nat) (x : Str) (c N : Nat) (ps : List Str) (ms : List MS) (l : List (Str × Nat)) (n : Nat) (ks : List Str) (ix : List Nat) (dvs : List V) : Prop where
  ex : ∃ f fd dd, Mk K (G.cl c) f ∧ FnOk P w K mg base CX0 k f fd ps (spI G c N ps.length ms l) ∧ mg x = some (.ref (G.cl c)) ∧ KBn K fd ps (n + 1) ks (fun us ws => permL (0 :: ix.map fun i => i + 1) (us ++ ws ++ dd)) (fun vs zs => permL (0 :: ix.map fun i => i + 1) (vs ++ zs ++ dvs))
section
variable {X : Cx} {G : GG} [NoSlot G] {W : WX} {j k n : Nat} {ps ks : List Str} {x : Str} {p pos : Pos} {e : Expr} {es : List Expr} {kws : List Keyword} {os os2 : List Opd} {F : FV} {dfl : List D} {dvs : List V} {ix : List Nat}
theorem se_kw (h : FnKw X.prog X.w X.K X.mg X.base G j x ps F n ks ix dvs) (hd : ∀ H, RVs G H dfl dvs) (hn : os.length = n) (hl : os2.length = ks.length) (hi : ix.length = ps.length) (nd : ix.Nodup) (hx : ∀ i ∈ ix, i < (os ++ os2).length + dfl.length) (hj : j ≤ k) (tk : Takes X W) (hr : Room k X.A)
    (ha : SOs X G W (e :: es) os) (hkw : PK X kws (tOs G W os2)) (hg : Gl X x := by rfl) (hall : (backToKw pos (keywordEach kws X.env)).all (·.1.isSome) = true := by rfl) (hks : (backToKw pos (keywordEach kws X.env)).filterMap (·.1) = ks := by rfl)
    (hdb : (x == ("__debug__" : Str)) = false := by decide) (he : starEach (e :: es) X.env = (false, eval e X.env) :: starEach es X.env := by rfl)
    (hpl : ((backTo pos (starEach (e :: es) X.env)).any (·.1) || (backToKw pos (keywordEach kws X.env)).any (·.1.isNone)) = false := by rfl) : SE X G W (.Call (.Name x p) (e :: es) kws pos) (mCallP (os ++ os2) dfl ix F) := by
  obtain ⟨f, fd, dd, ok, hm, hk, hb⟩ := h.ex
  subst hn
  rw [← hi] at ok
  exact se_callN (ok.mono hj) tk hr hg hm hk hb hd nd hx hl ha hkw hall hks hdb he hpl
end
section
variable {K : PySem.W.Frag} {x qual : Str} {st : Stmt} {f : Addr} {fd : FuncData} {ps : List Str} {dvs : List V} {kws : List (Str × V)}
abbrev FnD (K : PySem.W.Frag) (x qual : Str) (st : Stmt) (dvs : List V) (kws : List (Str × V)) (f : Addr) (fd : FuncData) : Prop := FunD K x qual (defArgs st) (defBody st) (defScope st) dvs kws f fd
theorem kb_kw (F : FnD K x qual st [] kws f fd) (n : Nat) (ks : List Str) (ms : List (Str × V)) (ix : List Nat) (hk : kws ≠ []) (hms : ∀ q ∈ ms, q ∈ kws) (h : ∀ (D : Addr) (doc pm : Value) (an : Option Addr) (cdv ct : Value) (us mv ws : List Value), us.length = n → mv.length = ms.length → ws.length = ks.length →
      KwChain D ((ms.map (·.1)).zip mv) (bindArgs (PySem.W.fnOf x qual (defArgs st) (defBody st) (defScope st) .none (.ref D) doc pm an cdv ct) ⟨us, ks.zip ws⟩) (ps.zip (permL ix (us ++ ws ++ mv)))) :
    ∃ dd, KBn K fd ps n ks (fun us ws => permL ix (us ++ ws ++ dd)) (fun vs zs => permL ix (vs ++ zs ++ ms.map (·.2))) :=
  F.kbinds0 n ks ms (fun us mv ws => permL ix (us ++ ws ++ mv)) hk hms (fun r1 r2 r3 => permL_vals ((r1.append r3).append r2) ix) h
end
end TV
namespace TV
open PySem PySem.Spec PyProof.Rows L2
section
variable {X : Cx} {G : GG} [NoSlot G] {st : Stmt} {rest : List Stmt} {m : MS} {ms : List MS} {t : TS} {l : List (Str × Nat)} {i : Nat} {f x : Str} {p p2 p3 pos : Pos}
end
end TV
namespace TV
open PySem PySem.Spec PyProof.Rows L2
end TV
namespace PySem
namespace RFX
open PySem.W PySem.Calls PyProof.Rows PySem.HandSPX
def iA : Arguments := { posonlyargs := [], args := [{ arg := "self", annotation := none, pos := ⟨5, 17, 5, 21⟩ }, { arg := "what", annotation := none, pos := ⟨5, 23, 5, 27⟩ }], vararg := none, kwonlyargs := [], kw_defaults := [], kwarg := none, defaults := [] }
def iB : List Stmt := [.Expr (.Call (.Attribute (.Call (.Name "super" ⟨6, 8, 6, 13⟩) [] [] ⟨6, 8, 6, 15⟩) "__init__" ⟨6, 8, 6, 24⟩) [.Constant (.str "refused") 0 ⟨6, 25, 6, 34⟩] [] ⟨6, 8, 6, 35⟩) ⟨6, 8, 6, 35⟩, .Assign [.Attribute (.Name "self" ⟨7, 8, 7, 12⟩) "what" ⟨7, 8, 7, 17⟩] (.Name "what" ⟨7, 20, 7, 24⟩) ⟨7, 8, 7, 24⟩]
def iS : Scope := { kind := .function, names := [(PySem.Str.ofString "self", .local), (PySem.Str.ofString "what", .local), (PySem.Str.ofString "__class__", .free), (PySem.Str.ofString "super", .globalImplicit)], isGenerator := false, isCoroutine := false, more := [] }
structure RefC (P : Program) (K : Frag) (D fI : Addr) : Prop where
  fn : ∃ (oc : Value) (od : Option Addr) (kV doc pm : Value) (an : Option Addr) (ct : Value) (osl : Array (Option Value)) (cda cc : Addr),
    K.lookup fI = some ⟨oc, od, .func (ksFn "__init__" "Refused.__init__" iA iB iS .none kV doc pm an (.ref cda) ct cc), osl⟩ ∧ codeIn K (.ref cda) "Refused.__init__" = true ∧
    (∃ ccl cdd vs ccs file tf, K.lookup cda = some ⟨ccl, cdd, .fields vs, ccs⟩ ∧ vs[2]? = some (.str file tf) ∧ ((P.main.file : Str) == file) = true) ∧
    ∃ cl cld csl, K.lookup cc = some ⟨cl, cld, .cell (some (.ref D)), csl⟩
  isD : ∃ cdD, clsIn K D = some cdD
  sup : nsIn K mainGlobals "super" = some none
  opq : nsIn K cStatics "thirdparty.any" = some none
  top : (P.main.scope.names.lookup ("super" : Str)).isSome = false
structure RefK (K : Frag) (D C fI : Addr) : Prop where
  cls : ∃ nm q N bs bm sn sub ab col dd k0 k1 k2 k3 k5, K.lookup C = some (excClassObj nm q C N bs bm true sn sub ab col dd k0 k1 k2 k3 k5 "ValueError.__new__") ∧ ((C = D ∧ bm = veTail) ∨ (C ≠ D ∧ bm = .ref D :: veTail))
  sa : findIn K (.ref C) "__setattr__" = some (some (.builtin "object.__setattr__"))
  ga : findIn K (.ref C) "__getattribute__" = some (some (.builtin "BaseException.__getattribute__"))
  gg : findIn K (.ref C) "__getattr__" = some none
  noN : findIn K (.ref C) "what" = some none
  iC : findIn K (.ref C) "__init__" = some (some (.ref fI))
  tC : typeIn K (.ref fI) = some (.type "function")
  kC : keepIn K (.ref C) = true
theorem refs_ok {D C : Addr} {bm : List Value} (h : (C = D ∧ bm = veTail) ∨ (C ≠ D ∧ bm = .ref D :: veTail)) : refsVE bm = true := by
  rcases h with ⟨_, rfl⟩ | ⟨_, rfl⟩ <;> rfl
structure InitEnd (h h' : Heap) (x C dx t1 : Addr) (v : Value) : Prop where
  keep : ∀ b o, b ≠ x → h.get? b = some o → h'.get? b = some o
  obj : h'.get? x = some { cls := .ref C, dict := some dx, data := .fields #[.ref t1, .none, .none, .none, .bool false, .none] }
  dbig : h.objs.size ≤ dx
  dne : dx ≠ x
  ns : h'.Ns1 dx (fun y => if y = "what" then some v else none)
structure OwnMade (h h' : Heap) (e C d : Addr) (v : Value) : Prop where
  keep : ∀ b o, h.get? b = some o → h'.get? b = some o
  new : h.objs.size ≤ e
  obj : ∃ oe vs, h'.get? e = some oe ∧ oe.cls = .ref C ∧ oe.dict = some d ∧ oe.data = .fields vs ∧ vs[1]? = some .none
  dbig : h.objs.size ≤ d
  dne : d ≠ e
  ns : h'.Ns1 d (fun y => if y = "what" then some v else none)
theorem one_size (v : Value) : [v].length ≤ sizeLine := by
  rw [sizeLine_eq]
  exact (by decide : 1 ≤ 16777216)
theorem along_ve (K : W.Frag) : W.alongIn K "__init__" veTail = some (some (.builtin "ValueError.__init__")) := by kernel_rfl
section
variable {prog : Program} {w : World} {A : Around} {E : Value → Shared → Prop} {R : Result → Shared → Prop} {s : Shared} {K : Frag} {mg mb : Str → Option Value} {D C fI : Addr}
theorem mw_call {h : Heap} {g : Array GenState} {d : Drawn} {t : Nat} {os : OsState} {nm q : Str} {N : Addr} {bs bm : List Value} {sn : List Str} {sub : List Value} {ab : Bool} {col : Option Bool} {dd : Option Addr} {k0 k1 k2 k3 k5 : Option Value} {u e t0 : Addr} {rest : List Value} {Q : Value → Shared → Prop}
    (hC : h.get? C = some (excClassObj nm q C N bs bm true sn sub ab col dd k0 k1 k2 k3 k5 "ValueError.__new__")) (he : h.get? e = some (excO C t0)) (hu : h.get? u = some (kxs_mw "ValueError.__init__" e)) (hz : rest.length ≤ sizeLine)
    (hq : ∀ h' t1, (∀ b o, b ≠ e → h.get? b = some o → h'.get? b = some o) → h'.get? e = some (excO C t1) → Q .none ⟨h', g, d, t, os⟩) :
    wpAny (model prog w) A (call (.ref u) rest) Q E ⟨h, g, d, t, os⟩ := by
  refine wpAny_call (codeAny_of_tree ?_)
  show wpAny _ A.in1 (callAny (.ref u) ⟨rest, []⟩) _ _ _
  simp only [callAny]
  refine wpAny_bind (wpAny_load hu ?_)
  simp only [kxs_mw, show (Value.type "method-wrapper" == Value.type "method" || Value.type "method-wrapper" == Value.type "builtin_function_or_method" || Value.type "method-wrapper" == Value.type "method-wrapper") = true by decide, if_true]
  refine KFB.if_so (by decide) ?_
  refine wpAny_bind (check_bound_init PySem.F.excBase_ValueError.toExcCallFacts hC he rfl ?_)
  refine wpAny_bind (wpAny_pure (wpAny_pure ?_))
  refine ⟨plainId_quiet PySem.F.excBase_ValueError.init.plain _, codeAny_builtin PySem.F.excBase_ValueError.initEntry ?_⟩
  exact exc_init_tree (cls := .ref C) (t0 := t0) (dv := none) (c2 := .none) (c3 := .none) (b4 := .bool false) he hz fun h' k e' _ => hq h' _ k e'
theorem ref_init (T : RefC prog K D fI) (T2 : RefK K D C fI) {x t0 : Addr} {v : Value} (X : K.In s.heap) (hlim : s.heap.NoLimit) (hg : s.heap.Ns mainGlobals mg) (hms : mg "super" = none) (hb : s.heap.Ns builtinsNs mb) (hbb : ∀ x : Str, x ≠ "__name__" → mb x = bootBuiltins x)
    (hx : s.heap.get? x = some (excO C t0)) (hnx : K.lookup x = none) (hroom : A.depth < recursionLimit)
    (hq : ∀ h' tk dx t1, InitEnd s.heap h' x C dx t1 v → R (.ok (.ret .none)) { s with heap := h', toks := tk }) :
    codeAny (model prog w) A (.call (.ref fI) ⟨[.ref x, v], []⟩) R s := by
  obtain ⟨oc, od, kV, doc, pm, an, ct, osl, cda, cc, ho, hcd, ⟨ccl, cdd, vs, ccs, file, tf, hco, hvs, hfile⟩, cl, cld, csl, hcc⟩ := T.fn
  obtain ⟨nm, q, N, bs, bm, sn, sub, ab, col, dd, k0, k1, k2, k3, k5, hC, hbm⟩ := T2.cls
  obtain ⟨cdD, hD⟩ := T.isD
  have hcl : clsIn K C = some { name := nm, bases := bs, mro := .ref C :: bm, ns := N, qualname := q, hasDict := true, slotNames := sn, subclasses := sub, abstract := ab, collection := col, hasDel := false } := by unfold clsIn; rw [hC] <;> rfl
  obtain ⟨hp, g, d, t, os⟩ := s
  have hxC : x ≠ C := by
    rintro rfl
    have e := X _ _ hC
    rw [hx] at e
    have e2 := congrArg Obj.data (Option.some.inj e)
    cases e2
  refine ks_codeAny_call_defAt (binds := [("self", .ref x), ("what", v)]) hroom (X _ _ ho) rfl hlim (codeRec_of X hcd) rfl (BindsTo.of_eq (by first | rfl | with_unfolding_all rfl)) (by show ∀ x ∈ iS.names, x.2 ≠ .cell; decide) (fun y hy => by
    rcases List.mem_cons.mp hy with rfl | hy
    · rfl
    · rcases List.mem_cons.mp hy with rfl | hy
      · rfl
      · cases hy) (fun h₁ hns k => ?_)
  have hxL : hp.objs.size ≠ x := Nat.ne_of_gt (Heap.lt_size hx)
  have X₁ : K.In h₁ := X.keeps k
  have hx₁ := k _ _ hx
  refine ks_wpAt_execs_cons ?_
  refine ks_wpAt_Expr_any ?_
  show wpAt _ _ _ (eval (.Call (.Attribute (.Call (.Name "super" ⟨6, 8, 6, 13⟩) [] [] ⟨6, 8, 6, 15⟩) "__init__" ⟨6, 8, 6, 24⟩) [.Constant (.str "refused") 0 ⟨6, 25, 6, 34⟩] [] ⟨6, 8, 6, 35⟩) (ksEnv "Refused.__init__" iS hp.objs.size fI (.ref cda) cc)) _ _ _
  refine ks_wpAt_MethodCall ?_
  obtain ⟨oD, hD1, hD2⟩ : ∃ oD, h₁.get? D = some oD ∧ oD.data = .cls cdD := by
    unfold clsIn at hD
    split at hD
    · rename_i c d cd' sl ho
      cases hD
      exact ⟨_, X₁ _ _ ho, rfl⟩
    · cases hD
  have subD : mroIn K C (.ref D) = some true := by
    unfold mroIn
    rw [hcl]
    rcases hbm with ⟨rfl, rfl⟩ | ⟨hne, rfl⟩ <;> simp
  have subV : mroIn K C (.type "ValueError") = some true := by
    unfold mroIn
    rw [hcl]
    rcases hbm with ⟨rfl, rfl⟩ | ⟨hne, rfl⟩ <;> simp
  have hdrop : ((Value.ref C :: bm).dropWhile (· != .ref D)).drop 1 = veTail := by
    rcases hbm with ⟨rfl, rfl⟩ | ⟨hne, rfl⟩
    · simp [List.dropWhile]
    · have c : (Value.ref C != Value.ref D) = true := by simp [hne]
      simp [List.dropWhile, c]
  have I : InstAt h₁ x (excO C t0) C none := ⟨hx₁, rfl, rfl, trivial⟩
  refine ks_wpAt_super_base (env := ksEnv "Refused.__init__" iS hp.objs.size fI (.ref cda) cc) (by rfl) (by rfl) (by decide) rfl (X₁ _ _ ho) rfl rfl rfl (X₁ _ _ hco) rfl hvs hfile T.top ?_
  refine ks_loadName_global rfl (by rfl) (loadGlobal_builtin (env := ksEnv "Refused.__init__" iS hp.objs.size fI (.ref cda) cc) (hg.keeps k) hms (hb.keeps k) ((hbb _ (by decide +kernel)).trans (by first | rfl | decide +kernel)) ⟨rfl, ?_⟩)
  refine wpAny_loadName_free rfl (by rfl) (by rfl) ⟨_, X₁ _ _ hcc, rfl⟩ ?_
  refine wpAny_loadName_local rfl (by rfl) hns (by rfl) ?_
  refine ks_wpAny_isType_cls hD1 hD2 ⟨rfl, ?_⟩
  refine ks_wpAny_call_super hD1 hD2 I.at_ I.cls (fun c e => by cases e) (looks_mroIn X₁ subD) (fun h₂ e2 k2 => ?_)
  have X₂ : K.In h₂ := X₁.keeps k2
  refine kxs_getMethod kxs_ValueError e2 (looks_opaque X₂ T.opq) (l₀ := .ref C :: bm) ((looks_clsIn X₂ hcl).andThen .now) hdrop X₂ (along_ve K) (I.type.keeps k2 |>.andThen (looks_mroIn X₂ subV)) hxC (by decide) ?_
  refine kxs_callWith (i := "ValueError.__init__") (x := x) rfl ?_
  refine evalArgs_plain ?_
  refine Calls.spliced_cons (Calls.Constant_str (k := 0) (pos := ⟨6, 25, 6, 34⟩) (Calls.spliced_nil ?_))
  have hpu := fun (o : Obj) => Heap.get?_push_at (h := h₂) (o := o) rfl
  refine ⟨Heap.get?_push_at rfl rfl, ?_⟩
  have up : ∀ b o, h₂.get? b = some o → (h₂.push (kxs_mw "ValueError.__init__" x)).get? b = some o := fun b o e => Heap.get?_push_of_some _ e
  refine mw_call (up _ _ (X₂ _ _ hC)) (up _ _ (k2 _ _ hx₁)) (Heap.get?_push_at rfl rfl) (one_size _) (fun h₄ t1 k4 hx4 => ?_)
  refine wpAt_of_wpAny ?_
  have old : ∀ b o, b ≠ x → hp.get? b = some o → h₄.get? b = some o := fun b o hb e => k4 b o hb (up b o (k2 b o (k b o e)))
  have oldl : ∀ b o, b ≠ x → h₁.get? b = some o → h₄.get? b = some o := fun b o hb e => k4 b o hb (up b o (k2 b o e))
  have X₄ : K.In h₄ := fun a o e => old a o (fun z => by rw [z, hnx] at e; cases e) (X a o e)
  have hns₄ : h₄.Ns hp.objs.size (fun y => ([("self", Value.ref x), ("what", v)] : List (Str × Value)).reverse.lookup y) := by
    obtain ⟨o, es, ep, e1, r⟩ := hns
    exact ⟨o, es, ep, oldl _ _ hxL e1, r⟩
  refine wpAny_execs_cons (plainObj_wpAny_Assign_Attribute ?_)
  refine wpAny_Name (wpAny_loadName_local rfl (by rfl) hns₄ (by rfl) (wpAny_Name (wpAny_loadName_local rfl (by rfl) hns₄ (by rfl) ?_)))
  refine set_plain X₄ (ox := excO C t1) (od := none) ⟨hx4, rfl, rfl, trivial⟩ T2.sa ?_
  refine exc_osa X₄ hx4 hcl (show refsVE bm = true from refs_ok hbm) rfl T2.noN (fun h₃ tk₃ dx k₃ dn dne hx₃ hn₃ => ?_)
  refine wpAny_execs_nil (hq h₃ tk₃ dx t1 ⟨fun b o hb e => k₃ b o hb (old b o hb e), hx₃, ?_, dne, hn₃⟩)
  have z : hp.objs.size < h₄.objs.size := hns₄.lt
  exact Nat.le_of_lt (Nat.lt_of_lt_of_le z dn)
theorem ref_made (T : RefC prog K D fI) (T2 : RefK K D C fI) {v : Value} (X : K.In s.heap) (hlim : s.heap.NoLimit) (hg : s.heap.Ns mainGlobals mg) (hms : mg "super" = none) (hb : s.heap.Ns builtinsNs mb) (hbb : ∀ x : Str, x ≠ "__name__" → mb x = bootBuiltins x) (hroom : A.depth + 1 < recursionLimit)
    (hq : ∀ h' tk e d, OwnMade s.heap h' e C d v → R (.ok (.ret (.ref e))) { s with heap := h', toks := tk }) :
    codeAny (model prog w) A (.call (.ref C) ⟨[v], []⟩) R s := by
  obtain ⟨nm, q, N, bs, bm, sn, sub, ab, col, dd, k0, k1, k2, k3, k5, hC, hbm⟩ := T2.cls
  have hbm' := refs_ok hbm
  obtain ⟨hp, g, dr, tk, os⟩ := s
  have k : ∀ b o, hp.get? b = some o → ((hp.push (kdv_tup [v])).push (excO C hp.objs.size)).get? b = some o := fun b o e => Heap.get?_push_of_some _ (Heap.get?_push_of_some _ e)
  have hget : ((hp.push (kdv_tup [v])).push (excO C hp.objs.size)).get? (hp.objs.size + 1) = some (excO C hp.objs.size) := by heap_get
  have hnx : K.lookup (hp.objs.size + 1) = none := by
    cases e : K.lookup (hp.objs.size + 1) with
    | none => rfl
    | some o =>
      have z : hp.get? (hp.objs.size + 1) = some o := X _ _ e
      exact absurd (Nat.lt_of_succ_lt (Heap.lt_size z)) (Nat.lt_irrefl _)
  refine call_own PySem.F.excBase_ValueError (fun X => refsVE_contains X bm hbm') (X _ _ hC) (looks_findIn X T2.iC) (fun self => bind_fn X self T2.tC) (one_size v) ?_
  refine ref_init (s := ⟨(hp.push (kdv_tup [v])).push (excO C hp.objs.size), g, dr, tk, os⟩) T T2 (X.keeps k) (hlim.keeps k) (hg.keeps k) hms (hb.keeps k) hbb hget hnx ?_ fun h' tk' dx t1 ⟨k', hx, dn, dne, hns⟩ => ?_
  · show A.depth + 1 < recursionLimit
    exact hroom
  · have old : ∀ b o, hp.get? b = some o → h'.get? b = some o := fun b o e => k' b o (Nat.ne_of_lt (Nat.lt_succ_of_lt (Heap.lt_size e))) (k b o e)
    have z : hp.objs.size + 1 + 1 ≤ dx := by
      first
        | (simpa only [Heap.size_push] using dn)
        | exact dn
        | (have q := dn; rw [Heap.size_push, Heap.size_push] at q; exact q)
    exact ⟨rfl, hq h' tk' (hp.objs.size + 1) dx ⟨old, Nat.le_succ _, ⟨_, _, hx, rfl, rfl, rfl, rfl⟩, Nat.le_trans (Nat.le_trans (Nat.le_succ _) (Nat.le_succ _)) z, dne, hns⟩⟩
end
end RFX
end PySem
namespace TV
open PySem PySem.Spec PyProof.Rows L2 PySem.RFX
section
variable {X : Cx} {CX : CXT} {k : Nat} {f C : Addr} {fd : FuncData} {ps : List Str} {sp : Sp} {E : L2.St → XK} {m : Str} {pos apos : Pos} {e o : Expr} {es : List Expr} {ta : TE} {t : TA}
end
structure FnMt (P : Program) (w : World) (K : PySem.W.Frag) (mg : Str → Option Value) (base : Heap) (G : GG) (k : Nat) (c : Nat) (m : Str) (ps : List Str) (F : FV) : Prop where
  ex : ∃ f fd, Cls K (G.cl c) ∧ Meth K (G.cl c) m f ∧ FnOk P w K mg base (L2.CX P w) k f fd ps (spV G ps.length F) ∧ Binds K fd ps []
section
variable {X : Cx} {G : GG} [NoSlot G] {W : WX} {j k c : Nat} {ps : List Str} {m x : Str} {p pos apos pos2 : Pos} {e o a : Expr} {es : List Expr} {os : List Opd} {ro : Opd} {F : FV}
structure FnEx (P : Program) (K : PySem.W.Frag) (mg : Str → Option Value) (G : GG) (x : Str) (c : Nat) : Prop where
  ex : ∃ Df fI, RefC P K Df fI ∧ RefK K Df (G.cl c) fI ∧ mg x = some (.ref (G.cl c)) ∧ mg "super" = none
theorem relO_ref {v : V} {v' : Value} (r : RelV v v') (f : Str) : RelO (List.lookup f [(("what" : Str), v)]) (if f = "what" then some v' else none) := by
  by_cases hw : f = "what"
  · subst hw
    rw [if_pos rfl]
    have q : List.lookup ("what" : Str) [(("what" : Str), v)] = some v := by simp [List.lookup]
    rw [q]
    exact r
  · rw [if_neg hw]
    have qw : (f == ("what" : Str)) = false := by simpa using hw
    have q2 : List.lookup f [(("what" : Str), v)] = none := by simp [List.lookup, qw]
    rw [q2]
    trivial
def tMkRef (C : Addr) (ta : TA) : L2.St → Hp → XK → Prop := fun σ H Q => ta σ H fun vs H1 => ∃ v, vs = [v] ∧ ∀ d, H1 d = none → Q (.ref C) (some d) (upd H1 d (.xd [(("what" : Str), v)]))
theorem pmk_ref {ta : TA} {D C fI : Addr} (T : RefC X.prog X.K D fI) (T2 : RefK X.K D C fI) (hx : X.mg x = some (.ref C)) (hs : X.mg "super" = none) (hr : Room k X.A) (ha : PA X [a] ta) (hg : Gl X x) (hdb : (x == ("__debug__" : Str)) = false := by decide)
    (he : starEach (a :: []) X.env = (false, eval a X.env) :: starEach [] X.env := by rfl) (hpl : (backTo pos (starEach [] X.env)).any (·.1) = false := by rfl) :
    PMk X (.Call (.Name x p) [a] [] pos) (tMkRef C ta) := by
  intro pins s σ H Q I h
  refine wpAny_Call_Name_kw (ld_glob I hg hx ?_ hdb)
  refine PySem.W.callWith_K (h₀ := X.base) I.ok.mod.kin T2.kC (thn (ha.run pos pins s σ H _ I h) fun us s1 hh => ?_) he hpl
  obtain ⟨vs, H1, I1, r1, v, ev, q1⟩ := hh
  subst ev
  refine ⟨I1.kIn, ?_⟩
  cases r1 with
  | cons rv rn =>
    rename_i v' us'
    cases rn
    show wpAny _ _ (call (.ref C) [v']) _ _ _
    have hlim := I1.nolimit
    obtain ⟨mb, hb1, hb2⟩ := I1.mod.blt
    have hgl := I1.mod.glob.keeps I1.bk
    have hbl := hb1.keeps I1.bk
    have r1 : PySem.W.subIn X.K (.ref C) (.type "BaseException") = some true := by
      obtain ⟨nm, q, N, bs, bm, sn, sub, ab, col, dd, k0, k1, k2, k3, k5, hC, hbm⟩ := T2.cls
      have hcl : PySem.W.clsIn X.K C = some { name := nm, bases := bs, mro := .ref C :: bm, ns := N, qualname := q, hasDict := true, slotNames := sn, subclasses := sub, abstract := ab, collection := col, hasDel := false } := by unfold PySem.W.clsIn; rw [hC] <;> rfl
      show PySem.W.mroIn X.K C _ = some true
      unfold PySem.W.mroIn
      rw [hcl]
      rcases hbm with ⟨_, rfl⟩ | ⟨hne, rfl⟩ <;> simp
    have r2 : PySem.W.typeIn X.K (.ref C) = some (.type "type") := by
      obtain ⟨nm, q, N, bs, bm, sn, sub, ab, col, dd, k0, k1, k2, k3, k5, hC, hbm⟩ := T2.cls
      show (List.lookup C X.K).map (·.cls) = _
      rw [hC]
      rfl
    obtain ⟨hp, g, dr, tk, os⟩ := s1
    refine wpAny_call (ref_made T T2 I1.kIn hlim hgl hs hbl hb2 (by have := hr.dp; omega) fun h' tk' e d M => ?_)
    show MkP X pins σ Q (.ref e) ⟨h', g, dr, tk', os⟩
    obtain ⟨oe, fv, hoe, hc, hd, hdat, h1⟩ := M.obj
    have hns := M.ns
    obtain ⟨G', g1, g2⟩ := restrict h' fun b => decide (b ≠ e)
    have gk : ∀ b, b ≠ e → G'.get? b = h'.get? b := fun b hb => g1 b (decide_eq_true hb)
    have ge : G'.get? e = none := g2 e (by simp)
    have old : ∀ b o, hp.get? b = some o → G'.get? b = some o := fun b o q => (gk b (Nat.ne_of_lt (Nat.lt_of_lt_of_le (Heap.lt_size q) M.new))).trans (M.keep b o q)
    have ob : ObjOk X.prog X.w (upd H1 d (.xd [(("what" : Str), v)])) G' d (.xd [(("what" : Str), v)]) :=
      ⟨_, hns.at (fun o q => (gk d M.dne).trans q), fun f => relO_ref rv f⟩
    have J : Inv X pins σ (upd H1 d (.xd [(("what" : Str), v)])) ⟨G', g, dr, tk', os⟩ := I1.laid (t' := tk') old M.dbig ob
    refine ⟨e, oe, fv, ⟨G', g, dr, tk', os⟩, _, .ref C, some d, rfl, J, fun b o q => ?_, ge, hoe, ⟨hc, hd⟩, hdat, h1, ?_, rfl, I1.bare, raises_own r1 r2, q1 d (I1.hok.fresh M.dbig)⟩
    · by_cases hb : b = e
      · have q' : G'.get? b = some o := q
        rw [hb, ge] at q'; cases q'
      · exact (gk b hb).symm.trans q
    · rw [upd_ne (Ne.symm M.dne)]
      exact I1.hok.fresh M.new
def kRaise (c : Nat) : D × Env → R (Out × Env) := fun p => if p.1.own = true then .stuck else .exc c p.1 p.2
def mRaise (c : Nat) (e : ME) : MS := fun ρ => (e ρ).bind (kRaise c)
theorem ss_raise {m : ME} (C : CT X G W) (h : FnEx X.prog X.K X.mg G x c) (hr : Room k X.A) (ha : SE X G W a m) (hg : Gl X x := by rfl) (hdb : (x == ("__debug__" : Str)) = false := by decide)
    (he : starEach (a :: []) X.env = (false, eval a X.env) :: starEach [] X.env := by rfl) (hpl : (backTo pos (starEach [] X.env)).any (·.1) = false := by rfl) :
    SS X G W (.Raise (some (.Call (.Name x p) [a] [] pos)) none pos2) [] (mRaise c m) := by
  obtain ⟨Df, fI, T, T2, hx, hs⟩ := h.ex
  refine ps_wk (ps_raise (C.calm (NoSlot.c (G := G))) C.tk (pmk_ref T T2 hx hs hr (pa_cons ha pa_nil he) hg hdb he hpl)) fun E σ H q => ?_
  obtain ⟨ρ, re, q⟩ := q
  refine ⟨ρ, re, ?_⟩
  have q : postS G W [] ρ σ H E ((m ρ).bind (kRaise c)) := q
  cases em : m ρ with
  | exc c' w ρ' => rw [em] at q; exact q
  | stuck => rw [em] at q; exact q
  | ok pr =>
    rw [em] at q
    obtain ⟨d, ρ1⟩ := pr
    have q : postS G W [] ρ σ H E (if d.own = true then .stuck else .exc c d ρ1) := q
    intro v H1 r1 f1 rs
    by_cases o : d.own = true
    · rw [if_pos o] at q
      exact q.elim
    · rw [if_neg o] at q
      refine ⟨v, rfl, fun dd hd => ?_⟩
      have sm : Same H1 (upd H1 dd (.xd [(("what" : Str), v)])) := fun b u hb => by
        have : b ≠ dd := fun z => by
          subst z
          rw [hd] at hb
          cases hb
        rw [upd_ne this]
        exact hb
      refine q σ _ dd _ v (r1.same sm) (f1.trans (Fr.same sm)) SameBut.refl upd_same (by simp [List.lookup]) ?_
      exact (rs.1.rv (by simpa using o)).mono (.same sm)
end
end TV
namespace L2
open PySem PySem.Spec PyProof.Rows
def endN (oi : Option Nat) (D : Ends) : Ends := match oi with
  | none => D
  | some i => { nx := fun σ' H' => D.nx (σ'.set i none) H', rt := D.rt, bk := fun σ' H' => D.bk (σ'.set i none) H', ct := fun σ' H' => D.ct (σ'.set i none) H' }
def atN (oi : Option Nat) (a : Addr) (σ : St) : St := match oi with
  | none => σ
  | some i => σ.set i (some (.ref a))
abbrev HdT := Value × Option Nat × (Addr → Value → Option Addr → TS)
def wGen (K : PySem.W.Frag) (Wout : WX) (D : Ends) : List HdT → WX
  | [] => Wout
  | (c, oi, ts) :: r => fun cls d σ H => ∃ b, PySem.W.exmOne K cls c = some b ∧ (b = true → ∀ a, H a = none → ts a cls d (endN oi D) (atN oi a σ) H) ∧ (b = false → wGen K Wout D r cls d σ H)
inductive HdG (X : Cx) : List ExceptHandler → List HdT → Prop
  | nil : HdG X [] []
  | bare {x : Str} {c : Value} {ts : Addr → Value → Option Addr → TS} {b₀ : Stmt} {suite : List Stmt} {np pos' : Pos} {hds : List ExceptHandler} {l : List HdT} (hc : Names X x c)
      (hsu : ∀ (a : Addr) (oe : Obj) (cls : Value) (d : Option Addr) (pn : List (Addr × Obj)), Zc cls d oe → (∃ vs, oe.data = .fields vs) → PSs (X.suite a ((a, oe) :: pn)) (b₀ :: suite) (ts a cls d)) (r : HdG X hds l) :
      HdG X (.ExceptHandler (some (.Name x np)) none (b₀ :: suite) pos' :: hds) ((c, none, ts) :: l)
  | named {x n : Str} {i : Nat} {c : Value} {ts : Addr → Value → Option Addr → TS} {b₀ : Stmt} {suite : List Stmt} {np pos' : Pos} {hds : List ExceptHandler} {l : List HdT} (hc : Names X x c) (hi : X.N[i]? = some n) (hln : X.env.kindOf n = some .local)
      (hsu : ∀ (a : Addr) (oe : Obj) (cls : Value) (d : Option Addr) (pn : List (Addr × Obj)), Zc cls d oe → (∃ vs, oe.data = .fields vs) → PSs (X.suite a ((a, oe) :: pn)) (b₀ :: suite) (ts a cls d)) (r : HdG X hds l) :
      HdG X (.ExceptHandler (some (.Name x np)) (some n) (b₀ :: suite) pos' :: hds) ((c, some i, ts) :: l)
section
variable {X : Cx} {body : List Stmt} {h₀ : ExceptHandler} {hds : List ExceptHandler} {l : List HdT} {pos : Pos} {tb : WX → TS} {Wout : WX}
theorem ps_try_gen (hs : X.stack = X.env :: X.outer) (hf : X.env.frame = some X.env.locals) (hN : X.N.Nodup) (tk : Takes X Wout)
    (hb : ∀ (W : WX) (pn : List (Addr × Obj)) (xe : Value → Shared → Prop), Takes (X.tr pn xe) W → PassesOwn (model X.prog X.w) X.A X.env xe → PSs (X.tr pn xe) body (tb W))
    (hh : HdG X (h₀ :: hds) l) : PS X (.Try body (h₀ :: hds) [] [] pos) (fun D σ H => tb (wGen X.K Wout D l) D σ H) := by
  refine ⟨fun pins s σ H D I h => ?_⟩
  have ok := I.ok
  have hfr : X.A.frames = some (X.env :: X.outer) := by rw [ok.frames, hs]
  refine wpAny_Try_except ?_
  refine wpAny_mono ((hb (wGen X.K Wout D l) (X.pn ++ pins) (fun e s₁ => wpAny (model X.prog X.w) X.A (noteFrame e X.env) (fun _ s₂ => wpAny (model X.prog X.w) X.A (setFlight e none) (fun _ s₃ =>
    wpAny (model X.prog X.w) X.A (handleBy e X.env (h₀ :: hds)) (SP X pins D) X.xe s₃) X.xe s₂) X.xe s₁) (fun u s' xx => ?_) PassesOwn.looking).run [] s σ H D (I.toTry _) h) (fun f s1 hsp => ?_) (fun e s1 he => he)
  · obtain ⟨a, B, sI, pins', σ', H', cls, d, rfl, J', nb, up, sky, na, os, ag, w⟩ := xx
    have J : Inv X pins σ' H' sI := J'.ofTry ok
    have sky' : Sky B (X.env :: X.outer) a (Zc cls d) X.env.locals s'.heap := by rw [← hs]; exact sky
    show wpAny (model X.prog X.w) X.A (noteFrame (.ref a) X.env) _ _ _
    refine Sky.land Zc.steady hfr hf sky' fun h3 fl3 up3 => ?_
    have J3 : Inv X pins σ' H' { s' with heap := h3 } := J.landed nb fl3.1 (up.trans up3) os ag
    obtain ⟨oe3, vs3, he3, hz3, hd3⟩ := fl3.there
    have notFr : ∀ {h : Heap} {o : Obj} {vs : Array Value}, h.FunFrames B (X.env :: X.outer) → h.get? a = some o → o.data = .fields vs → a ∉ frs (X.env :: X.outer) := fun {h o vs} ff e dd hm => by
      obtain ⟨_, o', e', hnf⟩ := ff.mem hm
      rw [e] at e'; cases e'
      exact hnf _ dd
    have nfr := notFr fl3.2.2.1 he3 hd3
    have nL : a ≠ X.env.locals := fun z => nfr (List.mem_filterMap.mpr ⟨X.env, List.mem_cons_self, by rw [hf, z]⟩)
    have nF : a ∉ X.fs := fun hm => by
      obtain ⟨e, he, q⟩ := List.mem_filterMap.mp hm
      exact nfr (List.mem_filterMap.mpr ⟨e, List.mem_cons_of_mem _ he, q⟩)
    have S3 := J3.suite he3 hd3 na nL nF
    have tst : ∀ {x : Str} {c : Value} {np : Pos}, Names X x c → ∀ {Q : Value → Shared → Prop} {E : Value → Shared → Prop}, Q c { s' with heap := h3 } → wpAny (model X.prog X.w) (X.A.mark (some (.ref a))) (eval (.Name x np) X.env) Q E { s' with heap := h3 } := fun {x c np} hc {Q E} q => by
      obtain ⟨hg, hdbg, hm | ⟨hm, hv, hnn⟩⟩ := hc
      · exact ld_glob (X := X.suite a ((a, oe3) :: (X.pn ++ pins))) S3 hg hm q hdbg
      · exact ld_blt (X := X.suite a ((a, oe3) :: (X.pn ++ pins))) S3 hg hm hv q hnn hdbg
    have go : ∀ {hds' : List ExceptHandler} {l' : List HdT}, HdG X hds' l' → wGen X.K Wout D l' cls d σ' H' →
        wpAny (model X.prog X.w) X.A (handleBy (.ref a) X.env hds') (SP X pins D) X.xe { s' with heap := h3 } := by
      intro hds' l' hk
      induction hk with
      | nil =>
        intro w
        refine wpAny_handleBy_nil ?_
        obtain ⟨k1, k2, k3, oe, vs, T, oT, ts', he, hz, hd, h1, hr⟩ := id fl3
        unfold PySem.passOn
        refine wpAny_bind (wpAny_field he hd h1 ?_)
        rw [if_neg (show ¬ ((Value.ref T == Value.none) = true) from by simp)]
        have fin : wpAny (model X.prog X.w) X.A (setFlight (.ref a) X.env.frame) (fun _ s4 => wpAny (model X.prog X.w) X.A (throw (.ref a) : Sem Flow) (SP X pins D) X.xe s4) X.xe { s' with heap := h3 } := by
          rw [hf]
          refine HandSPX.setFlight_upZ fl3 fun h4 hh4 up4 => wpAny_throw (tk _ _ ?_)
          exact ⟨a, B, sI, pins, σ', H', cls, d, rfl, J, nb, (up.trans up3).trans up4, .inr (.inr (by rw [hs]; exact hh4)), na, os, ag, w⟩
        first
          | exact wpAny_bind (wpAny_pure (wpAny_bind fin))
          | exact wpAny_bind fin
      | @bare x c ts b₀ suite np pos' hds2 l2 hc hsu r ih =>
        intro w
        obtain ⟨b, hb1, hyes, hno⟩ := w
        refine wpAny_handleBy_cons (codeAny_handlers_test ?_) (by intro q; cases q)
        have LT : PySem.W.Looks (model X.prog X.w) h3 (typeOf (.ref a)) cls := fun A Q E s k q => wpAny_typeOf_ref (k _ _ he3) (by rw [hz3.1]; exact q)
        have LM := PySem.W.exm_one (M := model X.prog X.w) (J3.kIn) LT hb1
        refine tst hc (LM.here ?_)
        cases b with
        | true =>
          refine codeAny_handlers_suite ?_
          refine HandSPX.lands_againZ fl3 fun h4 fl4 up4 => ?_
          have J4 : Inv X pins σ' H' { s' with heap := h4 } := J.landed nb fl4.1 ((up.trans up3).trans up4) os ag
          obtain ⟨oe4, vs4, he4, hz4, hd4⟩ := fl4.there
          have S4 := J4.suite he4 hd4 na nL nF
          refine wpAny_mono ((hsu a oe4 cls d (X.pn ++ pins) hz4 ⟨_, hd4⟩).run [] _ _ H' _ S4 (hyes rfl a na)) (fun f s6 hsp => ?_) (fun _ _ z => False.elim z)
          cases f with
          | next =>
            obtain ⟨σ6, H6, S6, q6⟩ := hsp
            exact ⟨_, _, S6.unsuite ok, q6⟩
          | brk =>
            obtain ⟨σ6, H6, S6, q6⟩ := hsp
            exact ⟨_, _, S6.unsuite ok, q6⟩
          | cont =>
            obtain ⟨σ6, H6, S6, q6⟩ := hsp
            exact ⟨_, _, S6.unsuite ok, q6⟩
          | ret u =>
            obtain ⟨v6, σ6, H6, S6, r6, q6⟩ := hsp
            exact ⟨_, _, _, S6.unsuite ok, r6, q6⟩
        | false =>
          show wpAny _ X.A (handleBy (.ref a) X.env hds2) _ _ _
          exact ih (hno rfl)
      | @named x n i c ts b₀ suite np pos' hds2 l2 hc hi hln hsu r ih =>
        intro w
        obtain ⟨b, hb1, hyes, hno⟩ := w
        have hloc : Loc X.env.scope n := .inl hln
        refine wpAny_handleBy_cons (codeAny_handlers_test ?_) (by intro q; cases q)
        have LT : PySem.W.Looks (model X.prog X.w) h3 (typeOf (.ref a)) cls := fun A Q E s k q => wpAny_typeOf_ref (k _ _ he3) (by rw [hz3.1]; exact q)
        have LM := PySem.W.exm_one (M := model X.prog X.w) (J3.kIn) LT hb1
        refine tst hc (LM.here ?_)
        cases b with
        | true =>
          refine codeAny_handlers_suite_as ?_
          refine HandSPX.lands_againZ fl3 fun h4 fl4 up4 => ?_
          have J4 : Inv X pins σ' H' { s' with heap := h4 } := J.landed nb fl4.1 ((up.trans up3).trans up4) os ag
          obtain ⟨oe4, vs4, he4, hz4, hd4⟩ := fl4.there
          have S4 := J4.suite he4 hd4 na nL nF
          refine store_ok (X := X.suite a ((a, oe4) :: (X.pn ++ pins))) (v := .ref a) S4 hN hi hloc rfl (fun s5 S5 => ?_) (.inr hln)
          refine wpAny_mono ((hsu a oe4 cls d (X.pn ++ pins) hz4 ⟨_, hd4⟩).run [] s5 _ H' _ S5 (hyes rfl a na)) (fun f s6 hsp => ?_) (fun _ _ z => False.elim z)
          have end_ : ∀ {σ6 : St} {H6 : Hp} {Q : Shared → Prop}, Inv (X.suite a ((a, oe4) :: (X.pn ++ pins))) [] σ6 H6 s6 → (∀ s7, Inv X pins (σ6.set i none) H6 s7 → Q s7) →
              wpAny (model X.prog X.w) X.A (do bindName X.env n .none; unbindBehindTheSuite X.env n pos') (fun _ s7 => Q s7) X.xe s6 := fun {σ6 H6 Q} S6 hq => gone_ok (S6.unsuite ok) hN hi hln hq
          cases f with
          | next =>
            obtain ⟨σ6, H6, S6, q6⟩ := hsp
            exact end_ S6 fun s7 J7 => ⟨_, _, J7, q6⟩
          | brk =>
            obtain ⟨σ6, H6, S6, q6⟩ := hsp
            exact end_ S6 fun s7 J7 => ⟨_, _, J7, q6⟩
          | cont =>
            obtain ⟨σ6, H6, S6, q6⟩ := hsp
            exact end_ S6 fun s7 J7 => ⟨_, _, J7, q6⟩
          | ret u =>
            obtain ⟨v6, σ6, H6, S6, r6, q6⟩ := hsp
            exact end_ S6 fun s7 J7 => ⟨_, _, _, J7, r6, q6⟩
        | false =>
          show wpAny _ X.A (handleBy (.ref a) X.env hds2) _ _ _
          exact ih (hno rfl)
    exact go hh w
  · cases f with
    | next =>
      obtain ⟨σ', H', J', q⟩ := hsp
      exact wpAny_execs_nil ⟨σ', H', J'.ofTry ok, q⟩
    | brk =>
      obtain ⟨σ', H', J', q⟩ := hsp
      exact ⟨σ', H', J'.ofTry ok, q⟩
    | cont =>
      obtain ⟨σ', H', J', q⟩ := hsp
      exact ⟨σ', H', J'.ofTry ok, q⟩
    | ret u =>
      obtain ⟨v, σ', H', J', r, q⟩ := hsp
      exact ⟨v, σ', H', J'.ofTry ok, r, q⟩
end
end L2
namespace TV
open PySem PySem.Spec PyProof.Rows L2 PySem.RFX
def GP (G : GG) (oi : Option Nat) (a dd : Addr) (fs : List (Str × V)) (w : D) (v : V) : GG where
  K := G.K
  cl := G.cl
  nm := G.nm
  pin := fun H => G.pin H ∧ H dd = some (.xd fs) ∧ RV G H w v
  pinOk := fun H H' k z => ⟨G.pinOk H H' k z.1, k.ob _ _ z.2.1 rfl, z.2.2.mono k⟩
  slot := oi
  sval := .ref a
  hot := true
section
variable {G : GG} {oi : Option Nat} {a dd : Addr} {fs : List (Str × V)} {w : D} {v : V}
theorem RE.toP {ρ : Env} {σ : L2.St} {H : Hp} (r : RE G ρ σ H) (h1 : H dd = some (.xd fs)) (h2 : RV G H w v) (h3 : ∀ i, oi = some i → σ[i]? = some (some (.ref a))) : RE (GP G oi a dd fs w v) ρ σ H :=
  RE.re (G := G) (G' := GP G oi a dd fs w v) rfl rfl rfl ⟨r.pin, h1, h2⟩ h3 r
theorem RE.ofP [NoSlot G] {ρ : Env} {σ : L2.St} {H : Hp} (r : RE (GP G oi a dd fs w v) ρ σ H) : RE G ρ σ H := RE.re (G := GP G oi a dd fs w v) (G' := G) rfl rfl rfl r.pin.1 RE.noSpin r
end
section
variable {X : Cx} {G : GG} {W : WX} {i c : Nat} {a dd : Addr} {fs : List (Str × V)} {w : D} {v : V} {oe : Obj} {pn : List (Addr × Obj)} {x : Str} {p pos : Pos}
theorem se_what (hi : X.N[i]? = some x) (hv : PE (X.suite a ((a, oe) :: pn)) (.Name x p) (tVar i)) (T : XfC X.K (G.cl c)) (hno : PySem.W.findIn X.K (.ref (G.cl c)) "what" = some none) (hz : Zc (.ref (G.cl c)) (some dd) oe) (hf : ∃ vs, oe.data = .fields vs) (hl : fs.lookup ("what" : Str) = some v)
    (hb : attributeBase (.Name x p) "what" (X.suite a ((a, oe) :: pn)).env (eval (.Name x p) (X.suite a ((a, oe) :: pn)).env) = eval (.Name x p) (X.suite a ((a, oe) :: pn)).env := by rfl) :
    SE (X.suite a ((a, oe) :: pn)) (GP G (some i) a dd fs w v) W (.Attribute (.Name x p) "what" pos) (mC w) := by
  refine pe_wk (pe_xf T hno hz hf hv hb) fun σ H Q q => ?_
  obtain ⟨ρ, re, q⟩ := q
  refine ⟨.ref a, re.spin i rfl, rfl, rfl, dd, fs, v, rfl, re.pin.2.1, hl, ?_⟩
  exact q v H re Fr.refl (Res.of_rv (RV.re (G := G) (G' := GP G (some i) a dd fs w v) rfl rfl rfl re.pin.2.2))
end
abbrev HdM := Nat × Option Nat × (Nat → D → MS)
def dropN (oi : Option Nat) (ρ : Env) : Env := match oi with
  | none => ρ
  | some i => ρ.set i none
def dropS (oi : Option Nat) (σ : L2.St) : L2.St := match oi with
  | none => σ
  | some i => σ.set i none
def sEnd (oi : Option Nat) : R (Out × Env) → R (Out × Env)
  | .ok p => .ok (p.1, dropN oi p.2)
  | _ => .stuck
def inR (oi : Option Nat) (ρ : Env) : Bool := match oi with
  | none => true
  | some i => decide (i < ρ.length)
def hdl (sb : Nat → Nat → Bool) : List HdM → Nat → D → Env → R (Out × Env)
  | [], c, w, ρ => .exc c w ρ
  | (j, oi, hm) :: r, c, w, ρ => if sb c j = true then chk (inR oi ρ) (sEnd oi (hm c w (dropN oi ρ))) else hdl sb r c w ρ
def kTry (sb : Nat → Nat → Bool) (kn : List Nat) (hs : List HdM) : R (Out × Env) → R (Out × Env)
  | .ok p => .ok p
  | .exc c w ρ => if kn.contains c = true then hdl sb hs c w ρ else .stuck
  | .stuck => .stuck
def mTry (sb : Nat → Nat → Bool) (kn : List Nat) (m : MS) (hs : List HdM) : MS := fun ρ => kTry sb kn hs (m ρ)
inductive HdS (X : Cx) (G : GG) (B kn : List Nat) : List ExceptHandler → List HdM → Prop
  | nil : HdS X G B kn [] []
  | bare {x : Str} {j : Nat} {hm : Nat → D → MS} {b₀ : Stmt} {suite : List Stmt} {np pos' : Pos} {hds : List ExceptHandler} {l : List HdM} (hc : Names X x (.ref (G.cl j)))
      (hsu : ∀ (a : Addr) (oe : Obj) (pn : List (Addr × Obj)) (c : Nat) (w : D) (dd : Addr) (fs : List (Str × V)) (v : V), Zc (.ref (G.cl c)) (some dd) oe → (∃ vs, oe.data = .fields vs) → fs.lookup ("what" : Str) = some v → c ∈ kn → SSs (X.suite a ((a, oe) :: pn)) (GP G none a dd fs w v) WF (b₀ :: suite) B (hm c w)) (r : HdS X G B kn hds l) :
      HdS X G B kn (.ExceptHandler (some (.Name x np)) none (b₀ :: suite) pos' :: hds) ((j, none, hm) :: l)
  | named {x n : Str} {i j : Nat} {hm : Nat → D → MS} {b₀ : Stmt} {suite : List Stmt} {np pos' : Pos} {hds : List ExceptHandler} {l : List HdM} (hc : Names X x (.ref (G.cl j))) (hi : X.N[i]? = some n) (hln : X.env.kindOf n = some .local) (hB : i ∈ B)
      (hsu : ∀ (a : Addr) (oe : Obj) (pn : List (Addr × Obj)) (c : Nat) (w : D) (dd : Addr) (fs : List (Str × V)) (v : V), Zc (.ref (G.cl c)) (some dd) oe → (∃ vs, oe.data = .fields vs) → fs.lookup ("what" : Str) = some v → c ∈ kn → SSs (X.suite a ((a, oe) :: pn)) (GP G (some i) a dd fs w v) WF (b₀ :: suite) B (hm c w)) (r : HdS X G B kn hds l) :
      HdS X G B kn (.ExceptHandler (some (.Name x np)) (some n) (b₀ :: suite) pos' :: hds) ((j, some i, hm) :: l)
def tsH (G : GG) (B kn : List Nat) (oi : Option Nat) (hm : Nat → D → MS) (a : Addr) (cls : Value) (d : Option Addr) : TS := fun E σ H =>
  ∃ (c : Nat) (w : D) (dd : Addr) (fs : List (Str × V)) (v : V), cls = .ref (G.cl c) ∧ d = some dd ∧ fs.lookup ("what" : Str) = some v ∧ c ∈ kn ∧ rdS (GP G oi a dd fs w v) WF B (hm c w) E σ H
def tsL (G : GG) (B kn : List Nat) (l : List HdM) : List HdT := l.map fun h => (.ref (G.cl h.1), h.2.1, tsH G B kn h.2.1 h.2.2)
theorem hdS_G {X : Cx} {G : GG} {B kn : List Nat} : ∀ {hds : List ExceptHandler} {l : List HdM}, HdS X G B kn hds l → HdG X hds (tsL G B kn l)
  | _, _, .nil => .nil
  | _, _, .bare hc hsu r => .bare hc (fun a oe cls d pn hz hf => ⟨fun pins s σ H E I ⟨c, w, dd, fs, v, e1, e2, e3, e4, q⟩ => by
      subst e1
      subst e2
      exact (hsu a oe pn c w dd fs v hz hf e3 e4).run pins s σ H E I q⟩) (hdS_G r)
  | _, _, .named hc hi hln _ hsu r => .named hc hi hln (fun a oe cls d pn hz hf => ⟨fun pins s σ H E I ⟨c, w, dd, fs, v, e1, e2, e3, e4, q⟩ => by
      subst e1
      subst e2
      exact (hsu a oe pn c w dd fs v hz hf e3 e4).run pins s σ H E I q⟩) (hdS_G r)
theorem hdS_slots {X : Cx} {G : GG} {B kn : List Nat} : ∀ {hds : List ExceptHandler} {l : List HdM}, HdS X G B kn hds l → ∀ h ∈ l, ∀ i, h.2.1 = some i → i ∈ B
  | _, _, .nil => fun h m => nomatch m
  | _, _, .bare _ _ r => fun h m i e => by
    rcases List.mem_cons.mp m with rfl | m
    · cases e
    · exact hdS_slots r h m i e
  | _, _, .named _ _ _ hB _ r => fun h m i e => by
    rcases List.mem_cons.mp m with rfl | m
    · cases e; exact hB
    · exact hdS_slots r h m i e
theorem hdl_ok {K : PySem.W.Frag} {G : GG} [NoSlot G] {W : WX} {A B kn : List Nat} {sb : Nat → Nat → Bool} {E : Ends} {ρ ρ1 : Env} {σ σ1 : L2.St} {H H1 : Hp} {c : Nat} {w : D} {dd : Addr} {fs : List (Str × V)} {v : V} (hkn : c ∈ kn) (r : RE G ρ1 σ1 H1) (f : Fr ρ σ H ρ1 σ1 H1) (s : SameBut (A ++ B) σ σ1) (h1 : H1 dd = some (.xd fs)) (h2 : fs.lookup ("what" : Str) = some v) (h3 : RV G H1 w v) :
    ∀ {l : List HdM}, (∀ h ∈ l, PySem.W.exmOne K (.ref (G.cl c)) (.ref (G.cl h.1)) = some (sb c h.1)) → (∀ h ∈ l, ∀ i, h.2.1 = some i → i ∈ B) → postS G W (A ++ B) ρ σ H E (hdl sb l c w ρ1) → wGen K W E (tsL G B kn l) (.ref (G.cl c)) (some dd) σ1 H1
  | [], _, _, q => q σ1 H1 dd fs v r f s h1 h2 h3
  | (j, oi, hm) :: l, he, hi, q => by
    refine ⟨sb c j, he _ List.mem_cons_self, fun hb a ha => ?_, fun hb => ?_⟩
    · unfold hdl at q
      rw [if_pos hb] at q
      unfold chk at q
      split at q
      case isFalse => exact q.elim
      rename_i hin
      have hi0 : ∀ i, oi = some i → i ∈ B ∧ i < σ1.length := fun i e => ⟨hi _ List.mem_cons_self i e, by
        subst e
        rw [← r.len]
        exact of_decide_eq_true hin⟩
      refine ⟨c, w, dd, fs, v, rfl, rfl, h2, hkn, ?_⟩
      have rS : RE G (dropN oi ρ1) (atN oi a σ1) H1 := by
        cases oi with
        | none => exact r
        | some i =>
          refine ⟨by show (ρ1.set i none).length = (σ1.set i _).length; rw [List.length_set, List.length_set]; exact r.len, fun j d e => ?_, fun j k x y b e1 e2 o1 o2 s1 s2 => ?_, r.pin, RE.noSpin⟩
          · have e : (ρ1.set i none)[j]? = some (some d) := e
            have hj : j ≠ i := fun z => by
              subst z
              rw [List.getElem?_set] at e
              split at e
              · split at e <;> cases e
              · rename_i n; exact n rfl
            rw [List.getElem?_set_ne (Ne.symm hj)] at e
            obtain ⟨u, e1, q1⟩ := r.val j d e
            exact ⟨u, by show (σ1.set i _)[j]? = _; rw [List.getElem?_set_ne (Ne.symm hj)]; exact e1, q1⟩
          · have e1 : (ρ1.set i none)[j]? = some (some x) := e1
            have e2 : (ρ1.set i none)[k]? = some (some y) := e2
            have hj : j ≠ i := fun z => by
              subst z
              rw [List.getElem?_set] at e1
              split at e1
              · split at e1 <;> cases e1
              · rename_i n; exact n rfl
            have hk : k ≠ i := fun z => by
              subst z
              rw [List.getElem?_set] at e2
              split at e2
              · split at e2 <;> cases e2
              · rename_i n; exact n rfl
            rw [List.getElem?_set_ne (Ne.symm hj)] at e1
            rw [List.getElem?_set_ne (Ne.symm hk)] at e2
            have s1 : (σ1.set i _)[j]? = _ := s1
            have s2 : (σ1.set i _)[k]? = _ := s2
            rw [List.getElem?_set_ne (Ne.symm hj)] at s1
            rw [List.getElem?_set_ne (Ne.symm hk)] at s2
            exact r.sep j k x y b e1 e2 o1 o2 s1 s2
      have rP : RE (GP G oi a dd fs w v) (dropN oi ρ1) (atN oi a σ1) H1 := rS.toP h1 h3 fun i e => by
        subst e
        show (σ1.set i _)[i]? = _
        rw [List.getElem?_set_self (hi0 i rfl).2]
      refine ⟨dropN oi ρ1, rP, ?_⟩
      -- owned: not more
      have oN : ∀ b, own (dropN oi ρ1) (atN oi a σ1) b → own ρ1 σ1 b := fun b ⟨j, d, e1, e2, e3⟩ => by
        cases oi with
        | none => exact ⟨j, d, e1, e2, e3⟩
        | some i =>
          have e1 : (ρ1.set i none)[j]? = some (some d) := e1
          have hj : j ≠ i := fun z => by
            subst z
            rw [List.getElem?_set] at e1
            split at e1
            · split at e1 <;> cases e1
            · rename_i n; exact n rfl
          rw [List.getElem?_set_ne (Ne.symm hj)] at e1
          have e3 : (σ1.set i _)[j]? = _ := e3
          rw [List.getElem?_set_ne (Ne.symm hj)] at e3
          exact ⟨j, d, e1, e2, e3⟩
      have fN : Fr ρ σ H (dropN oi ρ1) (atN oi a σ1) H1 := f.less oN
      have sN : SameBut B σ1 (atN oi a σ1) := fun k hk => by
        cases oi with
        | none => rfl
        | some i =>
          show (σ1.set i _)[k]? = _
          rw [List.getElem?_set_ne fun e => hk (by rw [← e]; exact (hi0 i rfl).1)]
      -- behind the suite
      have bk : ∀ {ρ2 : Env} {σ2 : L2.St} {H2 : Hp}, RE (GP G oi a dd fs w v) ρ2 σ2 H2 → Fr (dropN oi ρ1) (atN oi a σ1) H1 ρ2 σ2 H2 → SameBut B (atN oi a σ1) σ2 →
          RE G (dropN oi ρ2) (dropS oi σ2) H2 ∧ Fr ρ σ H (dropN oi ρ2) (dropS oi σ2) H2 ∧ SameBut (A ++ B) σ (dropS oi σ2) ∧ (∀ b, own (dropN oi ρ2) (dropS oi σ2) b → own ρ2 σ2 b) := fun {ρ2 σ2 H2} r2 f2 s2 => by
        have r3 := r2.ofP
        have s3 : SameBut (A ++ B) σ σ2 := fun k hk => by
          have hB : k ∉ B := fun z => hk (List.mem_append_right _ z)
          rw [s2 k hB, sN k hB, s k hk]
        cases oi with
        | none => exact ⟨r3, fN.trans f2, s3, fun b z => z⟩
        | some i =>
          have get : ∀ {k : Nat} {x : D}, (ρ2.set i none)[k]? = some (some x) → k ≠ i ∧ ρ2[k]? = some (some x) := fun {k x} e => by
            have hk : k ≠ i := fun z => by
              subst z
              rw [List.getElem?_set] at e
              split at e
              · split at e <;> cases e
              · rename_i n; exact n rfl
            rw [List.getElem?_set_ne (Ne.symm hk)] at e
            exact ⟨hk, e⟩
          have ow : ∀ b, own (ρ2.set i none) (σ2.set i none) b → own ρ2 σ2 b := fun b ⟨k, x, e1, e2, e3⟩ => by
            obtain ⟨hk, e1⟩ := get e1
            rw [List.getElem?_set_ne (Ne.symm hk)] at e3
            exact ⟨k, x, e1, e2, e3⟩
          refine ⟨⟨by show (ρ2.set i none).length = (σ2.set i none).length; rw [List.length_set, List.length_set]; exact r3.len, fun k x e => ?_, fun k m x y b e1 e2 o1 o2 t1 t2 => ?_, r3.pin, RE.noSpin⟩, (fN.trans f2).less ow, fun k hk => ?_, ow⟩
          · obtain ⟨hk, e⟩ := get e
            obtain ⟨u, e1, q1⟩ := r3.val k x e
            exact ⟨u, by show (σ2.set i none)[k]? = _; rw [List.getElem?_set_ne (Ne.symm hk)]; exact e1, q1⟩
          · obtain ⟨hk, e1⟩ := get e1
            obtain ⟨hm, e2⟩ := get e2
            have t1 : (σ2.set i none)[k]? = _ := t1
            have t2 : (σ2.set i none)[m]? = _ := t2
            rw [List.getElem?_set_ne (Ne.symm hk)] at t1
            rw [List.getElem?_set_ne (Ne.symm hm)] at t2
            exact r3.sep k m x y b e1 e2 o1 o2 t1 t2
          · show (σ2.set i none)[k]? = _
            rw [List.getElem?_set_ne fun e => hk (List.mem_append_right _ (by rw [← e]; exact (hi0 i rfl).1))]
            exact s3 k hk
      show postS (GP G oi a dd fs w v) WF B (dropN oi ρ1) (atN oi a σ1) H1 (endN oi E) (hm c w (dropN oi ρ1))
      cases em : hm c w (dropN oi ρ1) with
      | exc c2 w2 ρ2 => rw [em] at q; exact q.elim
      | stuck => rw [em] at q; exact q.elim
      | ok p =>
        rw [em] at q
        obtain ⟨o, ρ2⟩ := p
        cases o with
        | nx =>
          intro σ2 H2 r2 f2 s2
          obtain ⟨b1, b2, b3, _⟩ := bk r2 f2 s2
          have z := q _ H2 b1 b2 b3
          cases oi <;> exact z
        | bk =>
          intro σ2 H2 r2 f2 s2
          obtain ⟨b1, b2, b3, _⟩ := bk r2 f2 s2
          have z := q _ H2 b1 b2 b3
          cases oi <;> exact z
        | ct =>
          intro σ2 H2 r2 f2 s2
          obtain ⟨b1, b2, b3, _⟩ := bk r2 f2 s2
          have z := q _ H2 b1 b2 b3
          cases oi <;> exact z
        | rt d =>
          intro u σ2 H2 r2 f2 s2 rs
          obtain ⟨b1, b2, b3, b4⟩ := bk r2 f2 s2
          have rs1 : Res G ρ σ H ρ2 σ2 H2 d u := (Res.re (G := GP G oi a dd fs w v) (G' := G) rfl rfl rfl rs).ahead fN
          have z := q u _ H2 b1 b2 b3 ⟨rs1.1, fun b e o => ⟨fun k => (rs1.2 b e o).1 (b4 b k), (rs1.2 b e o).2⟩⟩
          cases oi <;> exact z
    · unfold hdl at q
      rw [if_neg (by rw [hb]; exact Bool.false_ne_true)] at q
      exact hdl_ok hkn r f s h1 h2 h3 (fun h m => he h (List.mem_cons_of_mem _ m)) (fun h m => hi h (List.mem_cons_of_mem _ m)) q
theorem CT.suite {X : Cx} {G : GG} {W : WX} {oi : Option Nat} {a dd : Addr} {fs : List (Str × V)} {w : D} {v : V} {oe : Obj} {pn : List (Addr × Obj)} (C : CT X G W) : CT (X.suite a ((a, oe) :: pn)) (GP G oi a dd fs w v) WF :=
  ⟨C.k, fun h => Bool.noConfusion h, takesF, PassesOwn.never, C.nd, C.un, C.gd⟩
theorem _root_.PySem.RFX.RefK.xf {K : PySem.W.Frag} {D C fI : Addr} (T2 : RefK K D C fI) : XfC K C ∧ PySem.W.findIn K (.ref C) "what" = some none ∧ PySem.W.subIn K (.ref C) (.type "BaseException") = some true ∧ PySem.W.hasDictIn K C = true ∧ PySem.W.typeIn K (.ref C) = some (.type "type") := by
  obtain ⟨nm, q, N, bs, bm, sn, sub, ab, col, dd, k0, k1, k2, k3, k5, hC, hbm⟩ := T2.cls
  have hcl : PySem.W.clsIn K C = some { name := nm, bases := bs, mro := .ref C :: bm, ns := N, qualname := q, hasDict := true, slotNames := sn, subclasses := sub, abstract := ab, collection := col, hasDel := false } := by unfold PySem.W.clsIn; rw [hC] <;> rfl
  have r1 : PySem.W.subIn K (.ref C) (.type "BaseException") = some true := by
    show PySem.W.mroIn K C _ = some true
    unfold PySem.W.mroIn
    rw [hcl]
    rcases hbm with ⟨_, rfl⟩ | ⟨hne, rfl⟩ <;> simp
  have r2 : PySem.W.hasDictIn K C = true := by
    unfold PySem.W.hasDictIn
    rw [hcl]
    rfl
  have r3 : PySem.W.typeIn K (.ref C) = some (.type "type") := by
    show (List.lookup C K).map (·.cls) = _
    rw [hC]
    rfl
  exact ⟨⟨T2.ga, T2.gg, r1, r2⟩, T2.noN, r1, r2, r3⟩
theorem exm_sub {K : PySem.W.Frag} {D C fI : Addr} {cls : Value} {b : Bool} (T2 : RefK K D C fI) (h4 : PySem.W.subIn K cls (.ref C) = some b) : PySem.W.exmOne K cls (.ref C) = some b := by
  obtain ⟨_, _, h1, hdct, ht⟩ := T2.xf
  have e0 : (PySem.W.clsIn K C).isSome = true := by
    obtain ⟨nm, q, N, bs, bm, sn, sub, ab, col, dd, k0, k1, k2, k3, k5, hC, hbm⟩ := T2.cls
    unfold PySem.W.clsIn
    rw [hC] <;> rfl
  have e1 : (PySem.W.subIn K (.ref C) (.type "BaseException") == some true) = true := by rw [h1] <;> rfl
  have e2 : ((PySem.W.clsIn K C).isSome && PySem.W.typeIn K (.ref C) == some (.type "type")) = true := by rw [e0, ht] <;> rfl
  show (if (PySem.W.subIn K (.ref C) (.type "BaseException") == some true) = true then (if ((PySem.W.clsIn K C).isSome && PySem.W.typeIn K (.ref C) == some (.type "type")) = true then PySem.W.subIn K cls (.ref C) else none) else none) = some b
  rw [if_pos e1, if_pos e2]
  exact h4
theorem se_whatX {X : Cx} {G : GG} {W : WX} {i c : Nat} {a dd : Addr} {fs : List (Str × V)} {w : D} {v : V} {oe : Obj} {pn : List (Addr × Obj)} {x cn : Str} {p pos : Pos} (hx : FnEx X.prog X.K X.mg G cn c) (hi : X.N[i]? = some x) (hv : PE (X.suite a ((a, oe) :: pn)) (.Name x p) (tVar i)) (hz : Zc (.ref (G.cl c)) (some dd) oe) (hf : ∃ vs, oe.data = .fields vs) (hl : fs.lookup ("what" : Str) = some v)
    (hb : attributeBase (.Name x p) "what" (X.suite a ((a, oe) :: pn)).env (eval (.Name x p) (X.suite a ((a, oe) :: pn)).env) = eval (.Name x p) (X.suite a ((a, oe) :: pn)).env := by rfl) :
    SE (X.suite a ((a, oe) :: pn)) (GP G (some i) a dd fs w v) W (.Attribute (.Name x p) "what" pos) (mC w) := by
  obtain ⟨Df, fI, _, T2, _, _⟩ := hx.ex
  obtain ⟨t1, t2, _⟩ := T2.xf
  exact se_what hi hv t1 t2 hz hf hl hb
end TV
namespace TBK
open PySem.SeqAt PySem.MeetsSeq PySem.MeetsSeq2 PySem.MeetsSeq3
open PySem PySem.Spec PyProof.Rows
section
variable {prog : Program} {w : World} {A : Around} {E : Value → Shared → Prop} {s : Shared}
end
end TBK
namespace L2
open PySem PySem.Spec PyProof.Rows
end L2
namespace TV
open PySem PySem.Spec PyProof.Rows L2
def dRev : List D → Option D
  | [.tup ds] => some (.tup ds.reverse)
  | [.lst ds] => some (.lst ds.reverse)
  | [.frl ds] => some (.lst ds.reverse)
  | _ => none
end TV
namespace TV
open PySem PySem.Spec PyProof.Rows L2
def kPar3 (i j l : Nat) : List (Option D) × Env → R (Out × Env) := fun p => match p.1 with
  | [some d1, some d2, some d3] => .ok (.nx, ((p.2.set i (some d1)).set j (some d2)).set l (some d3))
  | _ => .stuck
def mPar3 (i j l : Nat) (m n o : ME) : MS := fun ρ => (ev [.tmp m pAny, .tmp n pAny, .tmp o pAny] ρ).bind (kPar3 i j l)
theorem Res.more {G : GG} {ρ ρ1 : Env} {σ σ1 : L2.St} {H H1 : Hp} {d d1 : D} {v v1 : V} {i : Nat} (hl : ρ1.length = σ1.length) (q : Res G ρ σ H ρ1 σ1 H1 d v) (n : ∀ a, v = .ref a → d.own = true → v1 = .ref a → d1.own = true → False) : Res G ρ σ H (ρ1.set i (some d1)) (σ1.set i (some v1)) H1 d v :=
  ⟨q.1, fun a e o => ⟨fun z => by
    rcases own_set hl z with ⟨ev, ow⟩ | z
    · exact n a e o ev ow
    · exact (q.2 a e o).1 z, (q.2 a e o).2⟩⟩
end TV
namespace TV
open PySem PySem.Spec PyProof.Rows L2
theorem sss_wide {X : Cx} {G : GG} {W : WX} {st : List Stmt} {A B : List Nat} {m : MS} (hs : ∀ i ∈ A, i ∈ B) (h : SSs X G W st A m) : SSs X G W st B m :=
  pss_wk h fun E σ H ⟨ρ, re, q⟩ => ⟨ρ, re, by
    have wk : ∀ {σ' : L2.St}, SameBut A σ σ' → SameBut B σ σ' := fun s i hi => s i fun z => hi (hs i z)
    cases em : m ρ with
    | stuck => rw [em] at q; exact q
    | exc c w ρ' => rw [em] at q; exact fun σ' H' dd fs v a1 a2 a3 => q σ' H' dd fs v a1 a2 (wk a3)
    | ok p =>
      rw [em] at q
      obtain ⟨o, ρ'⟩ := p
      cases o with
      | nx => exact fun σ' H' r f s => q σ' H' r f (wk s)
      | bk => exact fun σ' H' r f s => q σ' H' r f (wk s)
      | ct => exact fun σ' H' r f s => q σ' H' r f (wk s)
      | rt d => exact fun v σ' H' r f s z => q v σ' H' r f (wk s) z⟩
end TV
namespace TV
open PySem PySem.Spec PyProof.Rows L2 PySem.RFX
section
variable {X : Cx} {G : GG} [NoSlot G] {W : WX} {pos p q : Pos} {a : Expr} {oa : Opd}
end
structure ExI (K : PySem.W.Frag) (C : Addr) : Prop where
  a : PySem.W.findIn K (.ref C) "__class__" = some (some (.builtin "object.__class__"))
  n : PySem.W.specialIn K (.builtin "object.__class__") "__get__" = some (some (.builtin "getset_descriptor.__get__"))
  t : PySem.W.takesIn K (.builtin "object.__class__") = some true
  m : PySem.W.mroIn K C (.type "object") = some true
def rIsX (K : PySem.W.Frag) (C a dd : Addr) : List V → Hp → VK → Prop := fun xs H Q => ∃ (c : V) (cv : Value) (b : Bool), xs = [.ref a, c] ∧ (∃ fs, H dd = some (.xd fs)) ∧ (∀ u, RelV c u → u = cv) ∧ PySem.W.kitOne K (.ref C) cv = some b ∧ Q (.bl b) H
theorem call_isX {X : Cx} {a dd D C fI : Addr} {oe : Obj} {pn : List (Addr × Obj)} (T2 : RefK X.K D C fI) (T3 : ExI X.K C) (hz : Zc (.ref C) (some dd) oe) (hf : ∃ vs, oe.data = .fields vs) : CallR (X.suite a ((a, oe) :: pn)) (.builtin "isinstance") (rIsX X.K C a dd) := by
  intro pins s σ H xs us Q I r h
  obtain ⟨c, cv, b, rfl, ⟨fs, hx⟩, hcv, e, q⟩ := h
  obtain ⟨u1, u2, rfl, rx, rt⟩ := vals2 r
  cases (show u1 = Value.ref a from rx)
  have ec := hcv _ rt
  subst ec
  obtain ⟨hget, _⟩ := I.pin (a, oe) (List.mem_append_left _ List.mem_cons_self)
  obtain ⟨vs, hv⟩ := hf
  obtain ⟨od, ho⟩ : ∃ od, s.heap.get? dd = some od := by
    have hx : ObjOk X.prog X.w H s.heap dd (.xd fs) := I.hok dd _ hx
    obtain ⟨mA, hns, _⟩ := hx
    obtain ⟨od, ho, _⟩ := lookIn_ns hns
    exact ⟨od, ho⟩
  have J : PySem.W.InstAt s.heap a oe C (some od) := ⟨hget, hz.1, by unfold PySem.W.notCls; rw [hv] <;> rfl, by rw [hz.2]; exact ho⟩
  obtain ⟨nm, q2, N, bs, bm, sn, sub, ab, col, d2, k0, k1, k2, k3, k5, hC, hbm⟩ := T2.cls
  have hcl : (PySem.W.clsIn X.K C).isSome = true := by unfold PySem.W.clsIn; rw [hC] <;> rfl
  obtain ⟨_, _, hsub, _, _⟩ := T2.xf
  exact PySem.W.kia_one (PySem.W.kitx_exc hcl T2.ga T2.gg hsub T3.a T3.n T3.t T3.m) I.kIn J e (fun z => nomatch z) fun tk => ⟨.bl b, H, I.kept (t' := tk) fun _ _ z => z, rfl, q⟩
section
variable {X : Cx} {G : GG} {W : WX} {i c : Nat} {a dd : Addr} {fs : List (Str × V)} {w : D} {v : V} {oe : Obj} {pn : List (Addr × Obj)} {x cn : Str} {p p1 p2 pos : Pos} {y : Str} {cv : V} {u : Value} {b : Bool}
theorem se_isX (hx : FnEx X.prog X.K X.mg G cn c) (T3 : ExI X.K (G.cl c)) (hi : X.N[i]? = some x) (hm : X.mg "isinstance" = none) (hv : PE (X.suite a ((a, oe) :: pn)) (.Name x p1) (tVar i)) (hy : PE (X.suite a ((a, oe) :: pn)) (.Name y p2) (tC cv)) (hu : ∀ z, RelV cv z → z = u)
    (hk : PySem.W.kitOne X.K (.ref (G.cl c)) u = some b) (hz : Zc (.ref (G.cl c)) (some dd) oe) (hf : ∃ vs, oe.data = .fields vs) (hg : Gl X "isinstance" := by rfl)
    (he : starEach [.Name x p1, .Name y p2] (X.suite a ((a, oe) :: pn)).env = (false, eval (.Name x p1) (X.suite a ((a, oe) :: pn)).env) :: starEach [.Name y p2] (X.suite a ((a, oe) :: pn)).env := by rfl) (hs : starEach [.Name y p2] (X.suite a ((a, oe) :: pn)).env = (false, eval (.Name y p2) (X.suite a ((a, oe) :: pn)).env) :: starEach [] (X.suite a ((a, oe) :: pn)).env := by rfl)
    (hpl : (backTo pos (starEach [.Name y p2] (X.suite a ((a, oe) :: pn)).env)).any (·.1) = false := by rfl) :
    SE (X.suite a ((a, oe) :: pn)) (GP G (some i) a dd fs w v) W (.Call (.Name "isinstance" p) [.Name x p1, .Name y p2] [] pos) (mC (.bl b)) := by
  obtain ⟨Df, fI, _, T2, _, _⟩ := hx.ex
  refine pe_wk (pe_callB (call_isX T2 T3 hz hf) hg hm boot_isinstance (pa_cons hv (pa_cons hy pa_nil hs) he) (by decide) (by decide) he hpl) fun σ H Q q => ?_
  obtain ⟨ρ, re, q⟩ := q
  exact ⟨.ref a, re.spin i rfl, cv, u, b, rfl, ⟨fs, re.pin.2.1⟩, hu, hk, q _ H re Fr.refl (Res.of_rv (.bl b))⟩
end
theorem rel_ref {C : Addr} : ∀ z, RelV (.ref C) z → z = Value.ref C := fun _ h => h
end TV
namespace TV
open PySem PySem.Spec PyProof.Rows L2 PySem.RFX
theorem kit_sub {K : PySem.W.Frag} {D C fI A : Addr} {b : Bool} (T2 : RefK K D C fI) (h4 : PySem.W.subIn K (.ref A) (.ref C) = some b) (hn : b = false → A ≠ C) : PySem.W.kitOne K (.ref A) (.ref C) = some b := by
  obtain ⟨_, _, _, _, ht⟩ := T2.xf
  have e0 : (PySem.W.clsIn K C).isSome = true := by
    obtain ⟨nm, q, N, bs, bm, sn, sub, ab, col, dd, k0, k1, k2, k3, k5, hC, hbm⟩ := T2.cls
    unfold PySem.W.clsIn
    rw [hC] <;> rfl
  have e2 : ((PySem.W.clsIn K C).isSome && PySem.W.typeIn K (.ref C) == some (.type "type")) = true := by rw [e0, ht] <;> rfl
  show (if (Value.ref A == Value.ref C) = true then some true else (if ((PySem.W.clsIn K C).isSome && PySem.W.typeIn K (.ref C) == some (.type "type")) = true then PySem.W.subIn K (.ref A) (.ref C) else none)) = some b
  rw [if_pos e2, h4]
  cases b with
  | true => split <;> rfl
  | false =>
    rw [if_neg]
    intro z
    have z : Value.ref A = Value.ref C := beq_iff_eq.mp z
    cases z
    exact hn rfl rfl
theorem kit_ve {K : PySem.W.Frag} {A : Addr} (h4 : PySem.W.subIn K (.ref A) (.type "ValueError") = some true) : PySem.W.kitOne K (.ref A) (.type "ValueError") = some true := by
  have e2 : PySem.W.kitMeta "ValueError" = true := by decide +kernel
  show (if (Value.ref A == Value.type "ValueError") = true then some true else (if PySem.W.kitMeta "ValueError" = true then PySem.W.subIn K (.ref A) (.type "ValueError") else none)) = some true
  rw [if_pos e2, h4]
  split <;> rfl
end TV
namespace TV
open PySem PySem.Spec PyProof.Rows L2
def kFz : D × TV.Env → R (D × TV.Env) := fun p => .ok (match p.1 with | .lst ds => .frl ds | d => d, p.2)
def mFz (m : ME) : ME := fun ρ => (m ρ).bind kFz
def kFzS (i : Nat) : Out × TV.Env → R (Out × TV.Env) := fun p => .ok (p.1, match p.1, p.2[i]? with | .nx, some (some (.lst ds)) => p.2.set i (some (.frl ds)) | _, _ => p.2)
def mFzS (i : Nat) (m : MS) : MS := fun ρ => (m ρ).bind (kFzS i)
section
variable {X : Cx} {G : GG} [NoSlot G] {W : WX}
end
section
variable {ρ : TV.Env} {m : ME} {s : MS} {i : Nat}
theorem a_fz : mFz m ρ = (m ρ).bind kFz := id rfl
theorem k_fzL {ds : List D} : kFz (.lst ds, ρ) = .ok (.frl ds, ρ) := id rfl
theorem k_fzF {ds : List D} : kFz (.frl ds, ρ) = .ok (.frl ds, ρ) := id rfl
theorem k_fzT {ds : List D} : kFz (.tup ds, ρ) = .ok (.tup ds, ρ) := id rfl
theorem a_fzS : mFzS i s ρ = (s ρ).bind (kFzS i) := id rfl
theorem k_fzS {o : Out} : kFzS i (o, ρ) = .ok (o, match o, ρ[i]? with | .nx, some (some (.lst ds)) => ρ.set i (some (.frl ds)) | _, _ => ρ) := id rfl
end
end TV
namespace TV
open PySem PySem.Spec PyProof.Rows L2
def tTupRgF (te : L2.St → Hp → (Int → Int → Hp → Prop) → Prop) : TE := fun σ H Q => te σ H fun a b H1 => RgOk a b ∧ NewT (rgV a b) H1 Q
theorem pe_tupRgF {X : Cx} {e : Expr} {te : L2.St → Hp → (Int → Int → Hp → Prop) → Prop} {p pos : Pos} (hc : X.calm = true) (hg : Gl X "tuple") (hm : X.mg "tuple" = none) (he : PRg X e te) (na : starEach [e] X.env = (false, eval e X.env) :: starEach [] X.env := by rfl) : PE X (.Call (.Name "tuple" p) [e] [] pos) (tTupRgF te) := by
  refine ⟨fun pins s σ H Q I h => ?_⟩
  refine Call_ (ld_blt I hg hm boot_tuple (PyProof.Rows.callWith_type1 (args_cons (thn (he pins s σ H _ I h) fun x s1 ⟨r, a, b, t, u, v, H1, ex, hr, I1, ok, q⟩ => args_nil ?_) na) na))
  subst ex
  obtain ⟨b1, b2, b3, b4, b5⟩ := ok
  refine call_tuple_range (n := (b - a).toNat) (I1.ok.hd hc) hr (small_one b1 b2 b3 b4) (rangeSize_nat a b) b5 fun h' tk acc hk hi => ?_
  have I2 : Inv X pins σ H1 { s1 with heap := h', toks := tk } := I1.kept hk
  have z := laidT (s := { s1 with heap := h', toks := tk }) I2 (vals_rg hi) (by rw [rgV_length, sizeLine_eq]; omega) q
  rwa [Array.toArray_toList] at z
theorem rvs_rgL {G : GG} {H : Hp} (a : Int) : ∀ l : List Nat, RVs G H (l.map fun i : Nat => D.int (a + i)) (l.map fun i : Nat => V.int (a + i))
  | [] => .nil
  | i :: l => .cons (.int _) (rvs_rgL a l)
theorem rvs_rg {G : GG} {H : Hp} (a b : Int) : RVs G H (dRng a (b - a).toNat) (rgV a b) := rvs_rgL a _
def dTupR2 : List D → Option D
  | [.int i, .int j] => if -(2 ^ 62) ≤ i ∧ i < 2 ^ 62 ∧ -(2 ^ 62) ≤ j ∧ j < 2 ^ 62 ∧ (j - i).toNat ≤ 2 ^ 24 then some (.tup (dRng i (j - i).toNat)) else none
  | _ => none
theorem v2_tupR {G : GG} : V2 G (fun x y H Q => ∃ i j, x = .int i ∧ y = .int j ∧ RgOk i j ∧ NewT (rgV i j) H Q) dTupR2 := by
  intro H x y d e z Q h1 h2 ef g
  unfold dTupR2 at ef
  split at ef
  · rename_i i j q
    cases q
    split at ef
    · rename_i c
      cases ef
      rw [h1.intOf, h2.intOf]
      exact ⟨i, j, rfl, rfl, c, g.tup (rvs_rg i j)⟩
    · cases ef
  · cases ef
section
variable {X : Cx} {G : GG} [NoSlot G] {W : WX} {a b : Expr} {oa ob : Opd} {p q pos pos2 : Pos}
theorem se_tupR2 (c : CT X G W) (hm : X.mg "tuple" = none) (hmr : X.mg "range" = none) (ha : SO X G W a oa) (hb : SO X G W b ob) (hg : Gl X "tuple" := by rfl) (hgr : Gl X "range" := by rfl)
    (na : starEach [a, b] X.env = (false, eval a X.env) :: starEach [b] X.env := by rfl) (nb : starEach [b] X.env = (false, eval b X.env) :: starEach [] X.env := by rfl) (hp : (backTo pos2 (starEach [b] X.env)).any (·.1) = false := by rfl)
    (ne : starEach [.Call (.Name "range" q) [a, b] [] pos2] X.env = (false, eval (.Call (.Name "range" q) [a, b] [] pos2) X.env) :: starEach [] X.env := by rfl) :
    SE X G W (.Call (.Name "tuple" p) [.Call (.Name "range" q) [a, b] [] pos2] [] pos) (mOp [oa, ob] dTupR2) :=
  pe_wk (pe_tupRgF (c.calm (NoSlot.c (G := G))) hg hm (prg_2 hgr hmr ha hb na nb hp) ne) fun σ H Q z => by
    have k : tO G W oa σ H fun x H1 => tO G W ob σ H1 fun y H2 => ∃ i j, x = .int i ∧ y = .int j ∧ RgOk i j ∧ NewT (rgV i j) H2 Q := mOp2_rd v2_tupR z
    exact k
end
section
variable {X : Cx} {G : GG} [NoSlot G] {W : WX} {o e f : Expr} {oo oe of : Opd} {apos cpos : Pos}
end
section
variable {X : Cx} {G : GG} [NoSlot G] {W : WX}
end
section
variable {X : Cx} {G : GG} [NoSlot G] {W : WX}
end
def keyD : Key → D
  | .inl i => .int i
  | .inr x => .str x
def D.keys : D → Option (List D)
  | .frd ks _ => some (ks.map keyD)
  | _ => none
section
variable {X : Cx} {G : GG} [NoSlot G] {W : WX} {tg e : Expr} {m : ME}
end
section
variable {ρ : TV.Env} {m : ME} {s : MS} {i : Nat} {vs : List Nat} {t : MT} {e1 e2 : ME}
end
section
variable {X : Cx} {G : GG} [NoSlot G] {W : WX} {a b : Expr} {oa ob : Opd} {pos : Pos}
end
section
variable {ρ : TV.Env} {is : List Nat} {ds : List D}
end
def dBools : List D → Option (List Bool)
  | [] => some []
  | .bl b :: ds => (dBools ds).map (b :: ·)
  | _ => none
theorem bools_ok {G : GG} {H : Hp} : ∀ {ds : List D} {vs : List V} {bs : List Bool}, RVs G H ds vs → dBools ds = some bs → vs = bs.map V.bl
  | [], _, _, .nil, e => by cases e; rfl
  | d :: ds, _, bs, .cons h r, e => by
    unfold dBools at e
    split at e
    · rename_i z; cases z
    · rename_i b ds' z
      cases z
      rw [Option.map_eq_some_iff] at e
      obtain ⟨cs, e, rfl⟩ := e
      cases h
      rw [bools_ok r e]
      rfl
    · cases e
section
variable {X : Cx} {G : GG} [NoSlot G] {W : WX} {o e a : Expr} {oo oe oa : Opd} {apos cpos p pos : Pos}
end
end TV
namespace TV
open PySem PySem.Spec PyProof.Rows L2
end TV
namespace TV
open PySem PySem.Spec PyProof.Rows L2
section
variable {X : Cx} {G : GG} [NoSlot G] {W : WX} {pos p q : Pos} {a : Expr} {oa : Opd}
end
end TV
namespace TV
open PySem PySem.Spec PyProof.Rows L2 PySem.RFX
end TV
namespace TV
open PySem PySem.Spec PyProof.Rows L2
section
variable {X : Cx} {G : GG} [NoSlot G] {W : WX}
end
end TV
namespace TV
open PySem PySem.Spec PyProof.Rows L2
theorem P3.mem {kvs : List (List Int × Addr × V)} {xs : List (List Int × Addr × Value)} (r : P3 kvs xs) : ∀ x ∈ xs, ∃ p ∈ kvs, p.1 = x.1 ∧ p.2.1 = x.2.1 := by
  induction r with
  | nil => intro x hx; exact nomatch hx
  | @cons p q ps qs hq t ih =>
    intro x hx
    rcases List.mem_cons.mp hx with e | hx
    · subst e
      exact ⟨p, List.mem_cons_self, hq.1, hq.2.1⟩
    · obtain ⟨p', hp, z⟩ := ih x hx
      exact ⟨p', List.mem_cons_of_mem _ hp, z⟩
section
variable {X : Cx} {pins : List (Addr × Obj)} {σ : L2.St} {H : Hp} {s : Shared} {a b : Addr} {kvs : List (List Int × Addr × V)} {k : List Int}
end
def valT (kvs : List (List Int × Addr × V)) (k : List Int) : Option V := (kvs.find? fun p => decide (p.1 = k)).map (·.2.2)
def putT (kvs : List (List Int × Addr × V)) (k : List Int) (b : Addr) (v : V) : List (List Int × Addr × V) :=
  if (kvs.any fun p => decide (p.1 = k)) = true then kvs.map (fun p => if p.1 = k then (p.1, p.2.1, v) else p) else kvs ++ [(k, b, v)]
theorem P3.val {kvs : List (List Int × Addr × V)} {xs : List (List Int × Addr × Value)} (r : P3 kvs xs) (k : List Int) : RelO (valT kvs k) ((atKey xs k).map (·.2)) := by
  induction r with
  | nil => exact True.intro
  | @cons p q ps qs h t ih =>
    obtain ⟨h1, _, h2⟩ := h
    by_cases e : p.1 = k
    · have e' : q.1 = k := h1.symm.trans e
      have b : atKey (q :: qs) k = some q.2 := by simp [atKey, List.find?_cons, e']
      have c : valT (p :: ps) k = some p.2.2 := by simp [valT, List.find?_cons, e]
      rw [c, b]; exact h2
    · have e' : ¬ q.1 = k := fun z => e (h1.trans z)
      have b : atKey (q :: qs) k = atKey qs k := by simp [atKey, List.find?_cons, e']
      have c : valT (p :: ps) k = valT ps k := by simp [valT, List.find?_cons, e]
      rw [c, b]; exact ih
theorem P3.repl {kvs : List (List Int × Addr × V)} {xs : List (List Int × Addr × Value)} (r : P3 kvs xs) (k : List Int) {y : V} {u : Value} (ry : RelV y u) :
    P3 (kvs.map fun p => if p.1 = k then (p.1, p.2.1, y) else p) (xs.map (putAt k u)) := by
  induction r with
  | nil => exact .nil
  | @cons p q ps qs h t ih =>
    rw [List.map_cons, List.map_cons]
    refine .cons ?_ ih
    obtain ⟨h1, h2, h3⟩ := h
    unfold putAt
    by_cases e : p.1 = k
    · rw [if_pos e, if_pos (h1.symm.trans e)]; exact ⟨h1, h2, ry⟩
    · rw [if_neg e, if_neg (fun z => e (h1.trans z))]; exact ⟨h1, h2, h3⟩
theorem valT_any (kvs : List (List Int × Addr × V)) (k : List Int) : (kvs.any fun p => decide (p.1 = k)) = (valT kvs k).isSome := by
  induction kvs with
  | nil => rfl
  | cons p ps ih =>
    unfold valT at *
    rw [List.any_cons, List.find?_cons]
    by_cases e : p.1 = k <;> simp [e, ih]
theorem P3.put {kvs : List (List Int × Addr × V)} {xs : List (List Int × Addr × Value)} (r : P3 kvs xs) (k : List Int) (b : Addr) {y : V} {u : Value} (ry : RelV y u) : P3 (putT kvs k b y) (storedH xs k b u) := by
  have e : (kvs.any fun p => decide (p.1 = k)) = (atKey xs k).isSome := by
    rw [valT_any, (r.val k).isSome_eq, Option.isSome_map]
  unfold putT storedH
  rw [e]
  by_cases q : (atKey xs k).isSome = true
  · rw [if_pos q, if_pos q]; exact r.repl k ry
  · rw [if_neg q, if_neg q]; exact Paired.snoc r ⟨rfl, rfl, ry⟩
section
variable {X : Cx} {o i e value : Expr} {pos pos' tpos : Pos} {td ty tv : TE}
end
def dTK : D → Option (List Int)
  | .tup ds => dInts ds
  | _ => none
theorem RS.tk {G : GG} [NoSlot G] {H : Hp} {d : D} {v : V} {k : List Int} (h : RS G H d v) (e : dTK d = some k) : ∃ b, v = .ref b ∧ TupS G.K H b (k.map V.int) := by
  cases d with
  | tup ds =>
    have e : dInts ds = some k := e
    rw [dInts_eq e] at h
    obtain ⟨a, vs, rfl, ht, r⟩ := h.tupOf
    rw [r.ints] at ht
    exact ⟨a, rfl, ht⟩
  | _ => cases e
section
variable {X : Cx} {G : GG} [NoSlot G] {W : WX} {pos pos' p : Pos} {a b e : Expr} {oa ob oi : Opd} {m : ME} {i : Nat} {x : Str}
end
end TV
namespace TV
open PySem PySem.Spec PyProof.Rows L2
section
variable {X : Cx} {o e f : Expr} {apos cpos : Pos} {td ty tx : TE}
end
section
variable {X : Cx} {G : GG} [NoSlot G] {W : WX} {o e f : Expr} {oo oe of : Opd} {apos cpos pos p : Pos} {a : Expr} {oa : Opd}
end
end TV
namespace TV
open PySem PySem.Spec PyProof.Rows L2
section
variable {X : Cx}
end
section
variable {X : Cx} {G : GG} [NoSlot G] {W : WX} {pos : Pos} {a b : Expr} {oa ob : Opd}
end
end TV
namespace TV
open PySem PySem.Spec PyProof.Rows L2
theorem se_lenN {X : Cx} {G : GG} {W : WX} {pos p : Pos} {a : Expr} {oa : Opd} (c : CT X G W) (hm : X.mg "len" = none) (ha : SO X G W a oa) (hg : Gl X "len" := by rfl) (he : starEach [a] X.env = (false, eval a X.env) :: starEach [] X.env := by rfl) : SE X G W (.Call (.Name "len" p) [a] [] pos) (mOp [oa] dLen) :=
  se_callB (r := rLen G.K) (by rw [c.k]; exact call_lenAll) vn_len hg hm boot_len (so_cons ha so_nil he) (by decide) (by decide) he
end TV
namespace TV
open PySem PySem.Spec PyProof.Rows L2
theorem rev_get {α : Type} {l : List α} {j : Nat} (h : j < l.length) : l.reverse[j]? = l[l.length - 1 - j]? := List.getElem?_reverse h
end TV
namespace TV
open PySem PySem.Spec PyProof.Rows L2
section
variable {X : Cx} {G : GG} [NoSlot G] {W : WX} {o e f : Expr} {oo oe of : Opd} {apos cpos : Pos}
end
def kFzT (i : Nat) : Out × TV.Env → R (Out × TV.Env) := fun p => .ok (p.1, match p.1, p.2[i]? with | .nx, some (some (.dct ks ds)) => p.2.set i (some (.frt ks ds)) | _, _ => p.2)
def mFzT (i : Nat) (m : MS) : MS := fun ρ => (m ρ).bind (kFzT i)
section
variable {X : Cx} {G : GG} [NoSlot G] {W : WX}
end
theorem a_fzd {i : Nat} {m : MS} {ρ : TV.Env} : mFzT i m ρ = (m ρ).bind (kFzT i) := id rfl
theorem k_fzd {i : Nat} {o : Out} {ρ : TV.Env} : kFzT i (o, ρ) = .ok (o, match o, ρ[i]? with | .nx, some (some (.dct ks ds)) => ρ.set i (some (.frt ks ds)) | _, _ => ρ) := id rfl
section
variable {X : Cx} {G : GG} [NoSlot G] {W : WX} {tg e : Expr} {m : ME}
end
section
variable {X : Cx} {G : GG} [NoSlot G] {W : WX} {pos : Pos} {a b : Expr} {m : ME}
end
end TV
namespace TV
open PySem PySem.Spec PyProof.Rows L2
def allS : List (Option D) → Option (List D)
  | [] => some []
  | some d :: xs => (allS xs).map (d :: ·)
  | none :: _ => none
def setNE : List Nat → List D → TV.Env → TV.Env
  | i :: is, d :: ds, ρ => setNE is ds (ρ.set i (some d))
  | _, _, ρ => ρ
def setNS : List Nat → List V → L2.St → L2.St
  | i :: is, v :: vs, σ => setNS is vs (σ.set i (some v))
  | _, _, σ => σ
def kParN (is : List Nat) : List (Option D) × TV.Env → R (Out × TV.Env) := fun p => match allS p.1 with
  | some ds => if ds.length = is.length ∧ ds.length ≤ 1000 then .ok (.nx, setNE is ds p.2) else .stuck
  | none => .stuck
def mParN (is : List Nat) (ms : List ME) : MS := fun ρ => (ev (ms.map fun m => Opd.tmp m pAny) ρ).bind (kParN is)
def Apart : List D → List V → D → V → Prop := fun ds vs d v => ∀ (k : Nat) (d' : D) (v' : V), ds[k]? = some d' → vs[k]? = some v' → ∀ a, v = .ref a → d.own = true → v' = .ref a → d'.own = true → False
inductive AllR (G : GG) (ρ0 : TV.Env) (σ0 : L2.St) (H0 : Hp) (ρ : TV.Env) (σ : L2.St) (H : Hp) : List D → List V → Prop
  | nil : AllR G ρ0 σ0 H0 ρ σ H [] []
  | cons {d : D} {v : V} {ds : List D} {vs : List V} (q : Res G ρ0 σ0 H0 ρ σ H d v) (n : Apart ds vs d v) (r : AllR G ρ0 σ0 H0 ρ σ H ds vs) : AllR G ρ0 σ0 H0 ρ σ H (d :: ds) (v :: vs)
theorem AllR.len {G : GG} {ρ0 ρ : TV.Env} {σ0 σ : L2.St} {H0 H : Hp} : ∀ {ds : List D} {vs : List V}, AllR G ρ0 σ0 H0 ρ σ H ds vs → ds.length = vs.length
  | _, _, .nil => rfl
  | _, _, .cons _ _ r => congrArg Nat.succ r.len
theorem AllR.more {G : GG} {ρ0 ρ : TV.Env} {σ0 σ : L2.St} {H0 H : Hp} {d1 : D} {v1 : V} {i : Nat} (hl : ρ.length = σ.length) : ∀ {ds : List D} {vs : List V}, AllR G ρ0 σ0 H0 ρ σ H ds vs → Apart ds vs d1 v1 → AllR G ρ0 σ0 H0 (ρ.set i (some d1)) (σ.set i (some v1)) H ds vs
  | _, _, .nil, _ => .nil
  | _, _, .cons (d := d) (v := v) q n r, ap => .cons ⟨q.1, fun a e o => ⟨fun z => by
      rcases own_set hl z with ⟨ev, ow⟩ | z
      · exact ap 0 _ _ rfl rfl a ev ow e o
      · exact (q.2 a e o).1 z, (q.2 a e o).2⟩⟩ n (r.more hl fun k d' v' h1 h2 => ap (k + 1) d' v' h1 h2)
theorem gts_set {is : List Nat} : ∀ {vs : List V} {σ : L2.St} {H : Hp} {K : L2.St → Hp → Prop}, vs.length = is.length → K (setNS is vs σ) H → gTs is vs σ H K := by
  induction is with
  | nil =>
    intro vs σ H K l k
    have : vs = [] := List.length_eq_zero_iff.mp l
    subst this
    exact ⟨rfl, k⟩
  | cons i is ih =>
    intro vs σ H K l k
    cases vs with
    | nil => cases l
    | cons v vs => exact ⟨v, vs, rfl, ih (Nat.succ.inj l) k⟩
theorem set_all {G : GG} [NoSlot G] {ρ0 : TV.Env} {σ0 : L2.St} {H0 H : Hp} : ∀ {is : List Nat} {ds : List D} {vs : List V} {ρ : TV.Env} {σ : L2.St}, RE G ρ σ H → AllR G ρ0 σ0 H0 ρ σ H ds vs → Fr ρ0 σ0 H0 ρ σ H → RE G (setNE is ds ρ) (setNS is vs σ) H ∧ Fr ρ0 σ0 H0 (setNE is ds ρ) (setNS is vs σ) H ∧ SameBut is σ (setNS is vs σ)
  | [], _, _, _, _, r, _, f => by
    refine ⟨?_, ?_, ?_⟩
    · unfold setNE setNS; exact r
    · unfold setNE setNS; exact f
    · unfold setNS; exact SameBut.refl
  | i :: is, [], _, _, _, r, .nil, f => ⟨r, f, fun _ _ => rfl⟩
  | i :: is, _ :: _, _, ρ, σ, r, .cons (d := d) (v := v) q n ar, f => by
    have r1 := r.setN q i
    have a1 := ar.more (i := i) r.len n
    have f1 : Fr ρ0 σ0 H0 (ρ.set i (some d)) (σ.set i (some v)) H := Fr.set1 r.len f fun a ea oa => (q.2 a ea oa).2
    obtain ⟨h1, h2, h3⟩ := set_all (is := is) r1 a1 f1
    exact ⟨h1, h2, fun j hj => (h3 j fun z => hj (List.mem_cons_of_mem _ z)).trans (List.getElem?_set_ne fun z => hj (by rw [z]; exact List.mem_cons_self))⟩
theorem ar_all {G : GG} [NoSlot G] {ρ ρ' : TV.Env} {σ : L2.St} {H H' : Hp} : ∀ {ms : List ME} {xs : List (Option D)} {vs : List V}, AR G ρ σ H ρ' H' (ms.map fun m => Opd.tmp m pAny) xs vs → ∃ ds, allS xs = some ds ∧ xs = ds.map some ∧ AllR G ρ σ H ρ' σ H' ds vs ∧ (∀ (k : Nat) (d : D) (a : Addr), ds[k]? = some d → vs[k]? = some (V.ref a) → d.own = true → a ∈ tA (ms.map fun m => Opd.tmp m pAny) xs vs)
  | [], _, _, .nil => ⟨[], rfl, rfl, .nil, fun k d a h => by simp at h⟩
  | m :: ms, _, _, .tmp (d := d) (v := v) (xs := xs) (vs := vs) q n r => by
    obtain ⟨ds, e1, e2, al, mem⟩ := ar_all r
    have cons_mem : ∀ a, a ∈ tA (ms.map fun m => Opd.tmp m pAny) xs vs → a ∈ tA (Opd.tmp m pAny :: ms.map fun m => Opd.tmp m pAny) (some d :: xs) (v :: vs) := fun a k => by
      cases v with
      | ref b =>
        unfold tA
        split
        · exact List.mem_cons_of_mem _ k
        · exact k
      | _ => exact k
    refine ⟨d :: ds, by show (allS xs).map (d :: ·) = _; rw [e1]; rfl, by rw [e2]; rfl, .cons q (fun k d' v' h1 h2 a ea oa ea' oa' => ?_) al, fun k d' a h1 h2 oa => ?_⟩
    · subst ea'
      exact n a ea oa (mem k d' a h1 h2 oa')
    · cases k with
      | zero =>
        cases h1
        have h2 : v = .ref a := Option.some.inj h2
        subst h2
        show a ∈ tA (Opd.tmp m pAny :: ms.map fun m => Opd.tmp m pAny) (some d :: xs) (V.ref a :: vs)
        unfold tA
        rw [if_pos oa]
        exact List.mem_cons_self
      | succ k => exact cons_mem a (mem k d' a h1 h2 oa)
theorem ss_parN {X : Cx} {G : GG} [NoSlot G] {W : WX} {is : List Nat} {ts es : List Expr} {ms : List ME} {pt pos : Pos} {kt k2 pt2} (c : CT X G W) (ha : SOs X G W es (ms.map fun m => Opd.tmp m pAny)) (hg : PGs X ts (gTs is))
    (hn : (assignEach ts X.env).length = is.length := by rfl) (hst : (assignEach ts X.env).findIdx? (·.1) = none := by rfl)
    (hs : swapsWithSole [.Tuple ts kt pt] (.Tuple es k2 pt2) pos.line X.env = pure false := by rfl) (hw : swappedStores [.Tuple ts kt pt] (.Tuple es k2 pt2) X.env = pure none := by rfl)
    (h3 : (assignEach [.Tuple ts kt pt] X.env).map (·.2) = [assign (.Tuple ts kt pt) X.env] := by rfl) :
    SS X G W (.Assign [.Tuple ts kt pt] (.Tuple es k2 pt2) pos) is (mParN is ms) :=
  ps_wk (ps_asg (pe_tupF ha) (pg_tup (c.calm (NoSlot.c (G := G))) hg hn hst) hs hw h3) fun E σ H q => by
    obtain ⟨ρ, re, q⟩ := q
    refine args_run re ?_
    have q : postS G W is ρ σ H E ((ev (ms.map fun m => Opd.tmp m pAny) ρ).bind (kParN is)) := q
    cases ee : ev (ms.map fun m => Opd.tmp m pAny) ρ with
    | exc c' w ρ' => rw [ee] at q; exact fun σ' H' dd fs v a1 a2 a3 => q σ' H' dd fs v a1 a2 (fun k _ => a3 k fun h => nomatch h)
    | stuck => rw [ee] at q; exact q.elim
    | ok p =>
      rw [ee] at q
      obtain ⟨xs, ρ'⟩ := p
      intro vs H' r' f' ar
      obtain ⟨ds, e1, e2, al, _⟩ := ar_all ar
      have q : postS G W is ρ σ H E (kParN is (xs, ρ')) := q
      unfold kParN at q
      simp only [e1] at q
      split at q
      case isFalse => exact q.elim
      rename_i hl
      have hv : vs.length = is.length := by rw [← al.len]; exact hl.1
      refine ⟨by rw [← al.len, sizeLine_eq]; omega, fun p o hc hd hp => ?_⟩
      have sm : Same H' (upd H' p (.frz o (.tup vs))) := same_upd hp
      refine ⟨p, vs, rfl, .inl (.inr ⟨o, upd_same⟩), hv, gts_set hv ?_⟩
      obtain ⟨h1, h2, h4⟩ := set_all (is := is) r' al f'
      exact q _ _ (h1.same sm) (h2.trans (Fr.same sm)) h4
section
variable {α : Type} {is : List Nat} {ms : List ME} {ρ : TV.Env} {xs : List (Option D)} {ds : List D}
theorem a_parN : mParN is ms ρ = (ev (ms.map fun m => Opd.tmp m pAny) ρ).bind (kParN is) := id rfl
theorem k_parN {d : D} : kParN is (some d :: xs, ρ) = match allS (some d :: xs) with
  | some ds => if ds.length = is.length ∧ ds.length ≤ 1000 then .ok (.nx, setNE is ds ρ) else .stuck
  | none => .stuck := id rfl
end
def gTN (i : Nat) (is : List Nat) : D → TV.Env → R TV.Env := fun d ρ => match d with
  | .tup [a, .tup ds] => gNs is ds (ρ.set i (some a))
  | _ => .stuck
theorem a_gTN {i : Nat} {is : List Nat} {a : D} {ds : List D} {ρ : TV.Env} : gTN i is (.tup [a, .tup ds]) ρ = gNs is ds (ρ.set i (some a)) := id rfl
end TV
namespace TV
open PySem L2
section
variable {X : Cx} {G : GG} [NoSlot G] {W : WX} {pos : Pos} {a b : Expr} {m u : ME} {rest : List Expr}
end
end TV
namespace TV
open PySem PySem.Spec PyProof.Rows L2
def lexL : List Int → List Int → Bool
  | _, [] => false
  | [], _ :: _ => true
  | x :: xs, y :: ys => if x = y then lexL xs ys else decide (x < y)
def leL (a b : List Int) : Prop := lexL b a = false
instance {a b : List Int} : Decidable (leL a b) := inferInstanceAs (Decidable (_ = _))
end TV
namespace SrtU
open PySem PySem.Spec PyProof.Rows SrtO TV
variable {prog : Program} {w : World} {A : Around} {E : Value → Shared → Prop} {s : Shared}
def IsTup (h : Heap) (v : Value) (ns : List Int) : Prop := ∃ (a : Addr) (o : Obj) (its : List Value) (n : Nat), v = .ref a ∧ h.get? a = some o ∧ o.cls = .type "tuple" ∧ o.data = .seq its.toArray n ∧ IntsAre its ns
theorem IsTup.keeps {h h' : Heap} {v : Value} {ns : List Int} (p : IsTup h v ns) (k : ∀ b o, h.get? b = some o → o.cls = .type "tuple" → h'.get? b = some o) : IsTup h' v ns := by
  obtain ⟨a, o, its, n, e, ho, hc, hd, hi⟩ := p
  exact ⟨a, o, its, n, e, k _ _ ho hc, hc, hd, hi⟩
end SrtU
namespace SrtU
open PySem PySem.Spec PyProof.Rows SrtO TV L2
section
variable {prog : Program} {w : World} {A : Around} {E : Value → Shared → Prop} {s : Shared}
end
end SrtU
namespace TV
open PySem PySem.Spec PyProof.Rows L2
end TV
namespace TV
open PySem PySem.Spec PyProof.Rows L2
section
variable {X : Cx} {CX : CXT} {k : Nat} {f C : Addr} {fd : FuncData} {ps : List Str} {sp : Sp} {E : L2.St → XK} {pos : Pos} {a b : Expr} {ta tb : TE}
end
section
variable {X : Cx} {G : GG} [NoSlot G] {W : WX} {j k c : Nat} {ps : List Str} {pos : Pos} {a b : Expr} {oa ob : Opd} {F : FV}
end
end TV
namespace TV
open PySem PySem.Spec PyProof.Rows L2
section
variable {X : Cx} {CX : CXT} {k : Nat} {f C : Addr} {fd : FuncData} {ps : List Str} {sp : Sp} {E : L2.St → XK} {pos : Pos} {a b : Expr} {ta tb : TE}
end
section
variable {X : Cx} {G : GG} [NoSlot G] {W : WX} {j k c : Nat} {ps : List Str} {pos : Pos} {a b : Expr} {oa ob : Opd} {F : FV}
end
end TV
namespace TV
open PySem PySem.Spec PyProof.Rows L2 PySem.RFX
abbrev GG.tb (K : PySem.W.Frag) (cl : Nat → Addr) (nm : Nat → List Str) (bs : List Addr) : GG := ⟨K, cl, nm, fun H => ∀ P ∈ bs, TabN H P, fun _ _ k h P hP => k.tab P (h P hP), none, .non, false⟩
instance {K : PySem.W.Frag} {cl : Nat → Addr} {nm : Nat → List Str} {bs : List Addr} : NoSlot (GG.tb K cl nm bs) := ⟨rfl, rfl⟩
def cA : Value → Addr
  | .ref c => c
  | _ => 0
def tabP (K : PySem.W.Frag) (v : Value) : Addr := match K.lookup (cA v) with
  | some ⟨_, _, .fields vs, _⟩ => (match (vs[11]? : Option Value) with
    | some (.ref P) => P
    | _ => 0)
  | _ => 0
structure LamB (base : Heap) (mg : Str → Option Value) (bs : List Addr) (fd : FuncData) (q : Str) : Prop where
  ex : ∃ c P, fd.code = .ref c ∧ LamX.TabB base mg c P ∧ P ∈ bs ∧ nmT P = q
theorem okXC {P : Program} {w : World} {K : PySem.W.Frag} {mg : Str → Option Value} {base : Heap} {x qual : Str} {st : Stmt} {f : Addr} {fd : FuncData} {N ps : List Str} {k : Nat} {sp : Sp} (F : Fun K x qual st f fd) (S : FnScope N ps (defScope st)) (len : ∀ vs H Q E, sp vs H Q E → vs.length = ps.length)
    (h : ∀ (cdv : Value) (A : Around) (outer : List PySem.Env) (s : Shared) (H : Hp) (vs : List V) (Q : VK) (E : XK), fd.code = cdv → Room k (A.deeper (envOfC qual (defScope st) s.heap.objs.size f cdv)) → sp vs H Q E →
      ∃ t, PSs (cxOf (L2.CX P w) P w K mg base N qual (defScope st) f cdv A outer s H E) (defBody st) t ∧ t { nx := fun _ H' => Q .non H', rt := Q } (L2.start N vs) H) : FnOk P w K mg base (L2.CX P w) (k + 1) f fd ps sp := by
  obtain ⟨oc, od, kV, doc, pm, an, cdv, ct, osl, rfl, lk, hc⟩ := F.ex
  exact ok_of lk hc S len fun A outer s H vs Q E hr hs => h cdv A outer s H vs Q E rfl hr hs
section
variable {X : Cx} {pins : List (Addr × Obj)} {σ : L2.St} {H HZ : Hp} {s s1 : Shared}
theorem lam_make3 {c P : Addr} {params : Arguments} {body : Expr} {scope : Scope} {pos : Pos} {E : Value → Shared → Prop} {Q : Value → Shared → Prop} (I : Inv X pins σ H s) (TB : LamX.TabB X.base X.mg c P) (hcode : X.env.code = .ref c)
    (hq : nmT P = X.env.qual ++ "<lambda>") (hT : TabN H P) (hdef : defaultsOf params X.env = ([], [])) (hfree : ∀ y ∈ scope.names, y.2 = .free → ∃ c, X.env.cells.lookup y.1 = some c)
    (h : ∀ (f c' : Addr) (pm ctv : Value) (H1 : Hp) (s' : Shared), Inv X pins σ H1 s' → SameT H H1 →
      s'.heap.get? f = some (PySem.W.kla_obj "<lambda>" (X.env.qual ++ "<lambda>") params body scope (cloFrom X.env.cells scope.names []) pm c' ctv) → H1 f = none → f ∉ frs X.stack → H1 c' = some (LamX.CodeO c' (X.env.qual ++ "<lambda>")) → Q (.ref f) s') :
    wpAny (model X.prog X.w) X.A (eval (.Lambda params body scope pos) X.env) Q E s := by
  unfold TabN at hT
  rw [hq] at hT
  obtain ⟨ps, hP, tr, al⟩ := hT
  refine PySem.W.kla_eval hdef ?_
  have bP : s.heap.BuiltinsAt X.mg P := TB.bm.keeps I.bk
  have oP : s.heap.get? P = some { cls := .none, data := .fields ps } := I.hok P _ hP
  have nF : ∀ f, s.heap.objs.size ≤ f → f ∉ frs X.stack := fun f hf z => by
    rcases List.mem_cons.mp (I.stkSub _ z) with e | e
    · have l := I.lt
      rw [← e] at l
      exact Nat.lt_irrefl _ (Nat.lt_of_lt_of_le l hf)
    · exact I.nofs hf e
  cases hc : codeAmong pos ps.toList with
  | some cv =>
    obtain ⟨c', e, co⟩ := al pos cv hc
    subst e
    refine PySem.W.kla_makeFunctionHit (mg := X.mg) (c := c) (P := P) (ps := ps) (closure_ok hfree) I.ok.glob (I.mod.glob.keeps I.bk) hcode (TB.code.keeps I.bk) oP tr hc bP fun ctv h' tk hx sz => ?_
    exact h h'.objs.size c' ((X.mg "__name__").getD .none) ctv H _ (I.kept fun b o e => Heap.get?_push_of_some _ (hx b o e)) (.same fun _ _ e => e) (Heap.get?_push_size _ rfl) (I.hok.fresh sz) (nF _ sz) co
  | none =>
    refine PySem.W.kla_makeFunction (mg := X.mg) (c := c) (P := P) (ps := ps) (closure_ok hfree) I.ok.glob (I.mod.glob.keeps I.bk) hcode (TB.code.keeps I.bk) oP tr hc TB.gP bP fun c' ctv h' tk hx ge lt rc tb => ?_
    obtain ⟨c2, oc, vs, t, e2, g1, g2, g3⟩ := rc
    cases e2
    have sz : s.heap.objs.size ≤ h'.objs.size := Nat.le_trans ge (Nat.le_of_lt lt)
    have nC : H c' = none := I.hok.fresh ge
    have J := LamX.inv_table (t' := tk) (more := #[rawInt pos.line, rawInt pos.col, .ref c']) (h' := h'.push (PySem.W.kla_obj "<lambda>" (X.env.qual ++ "<lambda>") params body scope (cloFrom X.env.cells scope.names []) ((X.mg "__name__").getD .none) c' ctv)) I hP
      (fun b o hb e => Heap.get?_push_of_some _ (hx b o hb e)) (Heap.get?_push_of_some _ tb) ge ⟨oc, vs, t, Heap.get?_push_of_some _ g1, g2, g3⟩
    have nPc : P ≠ c' := ne_of_none hP nC
    have old : ∀ b o, b ≠ P → H b = some o → upd (upd H P (.tbl (ps ++ #[rawInt pos.line, rawInt pos.col, .ref c']))) c' (LamX.CodeO c' (X.env.qual ++ "<lambda>")) b = some o := fun b o hb e => by
      rw [upd_ne (ne_of_none e nC), upd_ne hb]
      exact e
    have atP : upd (upd H P (.tbl (ps ++ #[rawInt pos.line, rawInt pos.col, .ref c']))) c' (LamX.CodeO c' (X.env.qual ++ "<lambda>")) P = some (.tbl (ps ++ #[rawInt pos.line, rawInt pos.col, .ref c'])) := by
      rw [upd_ne nPc, upd_same]
    have eL : (ps ++ #[rawInt pos.line, rawInt pos.col, .ref c']).toList = ps.toList ++ [rawInt pos.line, rawInt pos.col, .ref c'] := by simp
    have sm : SameT H (upd (upd H P (.tbl (ps ++ #[rawInt pos.line, rawInt pos.col, .ref c']))) c' (LamX.CodeO c' (X.env.qual ++ "<lambda>"))) := by
      refine ⟨fun b o e t => old b o (fun z => ?_) e, fun b o e t => ?_, fun P2 z => ?_⟩
      · rw [z, hP] at e
        cases e
        cases t
      · by_cases hb : b = P
        · rw [hb, atP]
          exact ⟨_, rfl, rfl⟩
        · exact ⟨o, old b o hb e, t⟩
      · obtain ⟨qs, z1, z2, z3⟩ := z
        have cd : ∀ d q, H d = some (LamX.CodeO d q) → upd (upd H P (.tbl (ps ++ #[rawInt pos.line, rawInt pos.col, .ref c']))) c' (LamX.CodeO c' (X.env.qual ++ "<lambda>")) d = some (LamX.CodeO d q) := fun d q e => old d _ (fun z => by
          rw [z, hP] at e
          exact LamX.codeO_ne ps (Option.some.inj e).symm) e
        by_cases hb : P2 = P
        · subst hb
          rw [hP] at z1
          cases z1
          refine ⟨_, atP, by rw [eL]; exact PySem.TriplesOk_snoc _ _ _ _ tr, fun p' cv hcv => ?_⟩
          rw [eL] at hcv
          rcases LamX.among_app _ tr hcv with y | y
          · obtain ⟨d, y1, y2⟩ := z3 p' cv y
            exact ⟨d, y1, cd d _ y2⟩
          · refine ⟨c', y, ?_⟩
            rw [upd_same, hq]
        · refine ⟨qs, old P2 _ hb z1, z2, fun p' cv hcv => ?_⟩
          obtain ⟨d, y1, y2⟩ := z3 p' cv hcv
          exact ⟨d, y1, cd d _ y2⟩
    refine h h'.objs.size c' ((X.mg "__name__").getD .none) ctv _ _ J sm (Heap.get?_push_size _ rfl) ?_ (nF _ sz) upd_same
    have n1 : h'.objs.size ≠ c' := Nat.ne_of_gt lt
    have n2 : h'.objs.size ≠ P := Nat.ne_of_gt (Nat.lt_of_lt_of_le (Heap.lt_size oP) sz)
    rw [upd_ne n1, upd_ne n2]
    exact I.hok.fresh sz
theorem pe_actS {CXg : CXT} {Eg : XK} {Ng : List Str} {qg : Str} {sg : Scope} {g f c' : Addr} {cdg pm ctv : Value} {params : Arguments} {body : Expr} {scope : Scope} {k i : Nat} {a : Str} {pn : List (Addr × Obj)} {xe : Value → Shared → Prop} {W : WX} {E : L2.St → XK} {t : XK → TE} {p1 p2 : Pos}
    (I : Inv X pins σ H s) (L : LamX.LamS X.env.scope scope) (hf : s.heap.get? f = some (PySem.W.kla_obj "<lambda>" (X.env.qual ++ "<lambda>") params body scope (cloFrom X.env.cells scope.names []) pm c' ctv)) (fN : H f = none) (fO : f ∉ frs X.stack)
    (bnd : bindArgs (PySem.W.kla_fn "<lambda>" (X.env.qual ++ "<lambda>") params body scope (cloFrom X.env.cells scope.names []) pm (.ref c') ctv) ⟨[], []⟩ = pure [])
    (tk : Takes ((cxOf CXg X.prog X.w X.K X.mg X.base Ng qg sg g cdg X.A X.stack s H Eg).tr pn xe) W) (hW : ∀ σ1 cls d H', E σ1 cls d H' → W cls d σ1 H') (hr : Room (k + 1) (X.A.deeper (envOfC qg sg s.heap.objs.size g cdg)))
    (hb : ∀ (A : Around) (outer : List PySem.Env) (s : Shared) (H : Hp) (E : XK), Room k (A.deeper (LamX.lamEnv X scope s.heap.objs.size f c')) → PE (LamX.lamCx X A outer s H E scope f c') body (t E))
    (hN : Ng[i]? = some a) (hv : Vis sg a) (hd : (a == ("__debug__" : Str)) = false) (hcd : (a == ("__classdict__" : Str)) = false) :
    PE ((cxOf CXg X.prog X.w X.K X.mg X.base Ng qg sg g cdg X.A X.stack s H Eg).tr pn xe) (.Call (.Name a p1) [] [] p2)
      (fun σ1 H1 Q => σ1[i]? = some (some (.ref f)) ∧ H1 c' = some (LamX.CodeO c' (X.env.qual ++ "<lambda>")) ∧ t (E σ1) σ H1 Q) := by
  refine ⟨fun pins1 s0 σ1 H1 Q I0 h => ?_⟩
  obtain ⟨e1, e2, e3⟩ := h
  refine wpAny_Call_Name_kw (thn ((pe_var (pos := p1) (i := i) hN hv hd hcd).run pins1 s0 σ1 H1 (fun v H2 => v = .ref f ∧ H2 = H1) I0 ⟨.ref f, e1, rfl, rfl⟩) fun u s2 ⟨v, H2, I2, r2, q2⟩ => ?_)
  obtain ⟨rfl, rfl⟩ := q2
  obtain rfl : u = Value.ref f := r2
  have of2 : s2.heap.get? f = some (PySem.W.kla_obj "<lambda>" (X.env.qual ++ "<lambda>") params body scope (cloFrom X.env.cells scope.names []) pm c' ctv) := I2.base.keep f _ hf fN fO fun z => nomatch (show f ∈ ([] : List Addr) from z)
  refine PySem.W.callWith_F0 ⟨_, _, _, _, of2⟩ ?_
  have un : Un (frs X.stack) [] H H2 s.heap s2.heap := I2.base
  obtain ⟨⟨oc, vs, tt, g1, g2, g3⟩, _, _⟩ := I2.hok c' _ e2
  have rc : codeAny (model X.prog X.w) (X.A.deeper (envOfC qg sg s.heap.objs.size g cdg)) (.call (.ref f) ⟨[], []⟩) (CR (L2.CX X.prog X.w) (envOfC qg sg s.heap.objs.size g cdg :: X.stack) X.prog X.w H2 s2 Q (E σ1)) s2 := by
    refine PySem.W.kla_callFunE hr.depth of2 rfl L.co L.gen rfl ⟨c', oc, vs, tt, rfl, g1, g2, g3⟩ ?_
    rw [bnd]
    refine wpAny_pure (wpAny_newFunctionEnv (fun y hy => (L.own y hy).2) (fun y hy => absurd hy (by simp)) (fun h1 hns sb => ⟨I2.nolimit.fresh _ sb, ?_⟩) L.kind)
    show codeAny _ _ (.expr body (LamX.lamEnv X scope s2.heap.objs.size f c')) _ _
    have J := LamX.lam_start2 (E := E σ1) (f := f) (c' := c') (tk := s2.toks + ([] : List (Str × Value)).length) I L I2.env0 hr.hd un hns fun b o e => sb.extBut b o (Nat.ne_of_lt (Heap.lt_size e)) (Heap.get?_push_of_some _ e)
    refine PySem.W.kla_codeExpr (wpAny_mono ((hb _ _ s2 H2 (E σ1) (hr.deeper _)).run [] _ _ H2 Q J e3) (fun v s' hq => ?_) fun e s' hq => hq)
    obtain ⟨w', H', J', rv, q⟩ := hq
    exact ⟨w', H', J'.os, J'.bare, J'.base, J'.hok, rv, q⟩
  refine wpAny_call (codeAny_mono rc fun r s' hq => ?_)
  cases r with
  | error e => exact tk e s' (XE.of_call I2 (fun cls d H' h => hW σ1 cls d H' h) hq)
  | ok fl =>
    cases fl with
    | ret u => exact I2.after hq
    | next => exact False.elim hq
    | brk => exact False.elim hq
    | cont => exact False.elim hq
end
end TV
namespace TV
open PySem PySem.Spec PyProof.Rows L2 PySem.RFX
inductive DO where
  | ok (d : D) | exc (c : Nat) (w : D)
def mDeed (b : Bool) : DO → MS
  | .ok d => fun ρ => .ok (if b = true then .rt d else .nx, ρ)
  | .exc c w => fun ρ => .exc c w ρ
def kDeed (b : Bool) (E : Ends) (σ : L2.St) : VK := if b = true then E.rt else fun _ H' => E.nx σ H'
theorem postS_seq {G : GG} {W : WX} {A B : List Nat} {ρ : Env} {σ : L2.St} {H : Hp} {E : Ends} {n : MS} {r : R (Out × Env)} (q : postS G W (A ++ B) ρ σ H E (r.bind (kSeq n))) :
    postS G W A ρ σ H { nx := fun σ' H' => rdS G W B n E σ' H', rt := E.rt, bk := E.bk, ct := E.ct } r := by
  cases r with
  | ok p =>
    obtain ⟨o, ρ1⟩ := p
    cases o with
    | nx => exact fun σ1 H1 r1 fr sb => ⟨ρ1, r1, postS.ahead (r := n ρ1) q fr sb⟩
    | bk => exact postS.wide (E := E) (r := .ok (.bk, ρ1)) q fun i z => List.mem_append_left _ z
    | ct => exact postS.wide (E := E) (r := .ok (.ct, ρ1)) q fun i z => List.mem_append_left _ z
    | rt d => exact postS.wide (E := E) (r := .ok (.rt d, ρ1)) q fun i z => List.mem_append_left _ z
  | exc c w ρ' => exact postS.wide (E := E) (r := .exc c w ρ') q fun i z => List.mem_append_left _ z
  | stuck => exact q
def mTold (sb : Nat → Nat → Bool) (kn : List Nat) (b : Bool) (l : List HdM) (mr : MS) (o : DO) : MS := mSeq (mTry sb kn (mDeed b o) l) mr
def fTold (N n : Nat) (A : List Nat) (sb : Nat → Nat → Bool) (kn : List Nat) (b : Bool) (l : List HdM) (mr : MS) : DO → FV := fun o => mDef N n A (mTold sb kn b l mr o)
section
variable {X : Cx} {G : GG} [NoSlot G] {N : List Str} {B A2 kn : List Nat} {sb : Nat → Nat → Bool} {b : Bool} {h₀ : ExceptHandler} {hds : List ExceptHandler} {pos : Pos} {S0 : Stmt} {rest : List Stmt} {l : List HdM} {mr : MS} {tl : XK → Hp → VK → Prop} {pre : L2.St → Hp → Prop} {vs : List V} {τ : Env} {H : Hp} {Q : VK} {n : Nat}
def toldX (G : GG) (τ : Env) (vs : List V) (Q : VK) (FT : DO → FV) (E1 : XK) : Prop := ∀ (c : Nat) (w : D) (dd : Addr) (fs : List (Str × V)) (v : V) (H1 : Hp), H1 dd = some (.xd fs) → fs.lookup ("what" : Str) = some v → RV G H1 w v → RE G τ (vs.map some) H1 → postF G τ (vs.map some) H1 Q E0 (FT (.exc c w) τ) → E1 (.ref (G.cl c)) (some dd) H1
def toldR (G : GG) (τ : Env) (vs : List V) (Q : VK) (FT : DO → FV) (Q1 : VK) : Prop := ∀ (d : D) (v : V) (H1 : Hp), RV G H1 d v → RE G τ (vs.map some) H1 → postF G τ (vs.map some) H1 Q E0 (FT (.ok d) τ) → Q1 v H1
theorem told_gives (C : CT X G WF) (hs : X.stack = X.env :: X.outer) (hf : X.env.frame = some X.env.locals) (hx : ∀ c ∈ kn, ∀ j ∈ l.map (·.1), PySem.W.exmOne X.K (.ref (G.cl c)) (.ref (G.cl j)) = some (sb c j)) (hh : HdS X G B kn (h₀ :: hds) l) (hr : SSs X G WF rest A2 mr)
    (h0 : ∀ (W' : WX) (pn : List (Addr × Obj)) (xe : Value → Shared → Prop) (Ech : L2.St → XK), Takes (X.tr pn xe) W' → (∀ σ1 cls d H', Ech σ1 cls d H' → W' cls d σ1 H') → PS (X.tr pn xe) S0 (fun E σ H => pre σ H ∧ tl (Ech σ) H (kDeed b E σ)))
    (hp : pre (L2.start N vs) H) (hl : vs.length = n) (ht : ∀ (E1 : XK) (Q1 : VK), toldX G τ vs Q (fTold N.length n (B ++ A2) sb kn b l mr) E1 → toldR G τ vs Q (fTold N.length n (B ++ A2) sb kn b l mr) Q1 → tl E1 H Q1) :
    ∃ t, PSs X (.Try [S0] (h₀ :: hds) [] [] pos :: rest) t ∧ t { nx := fun _ H' => Q .non H', rt := Q } (L2.start N vs) H := by
  refine ⟨_, pss_cons (ps_try_gen (Wout := WF) (tb := fun W' => fun E σ H => ∃ Ech : L2.St → XK, (∀ σ1 cls d H', Ech σ1 cls d H' → W' cls d σ1 H') ∧ pre σ H ∧ tl (Ech σ) H (kDeed b E σ)) hs hf C.nd takesF
    (fun W' pn xe tk _ => ⟨fun pins s σ H E I ⟨Ech, hW, h1, h2⟩ => (pss_one (h0 W' pn xe Ech tk hW)).run pins s σ H E I ⟨h1, h2⟩⟩) (hdS_G hh)) hr, ?_⟩
  refine ⟨fun σ1 cls d H' => wGen X.K WF _ (tsL G B kn l) cls d σ1 H', fun _ _ _ _ z => z, hp, ht _ _ (fun c w dd fs v H1 e1 e2 e3 re q => ?_) fun d v H1 e1 re q => ?_⟩
  · have q := postS_seq (A := B) (B := A2) (post_body (N := N) (A := B ++ A2) (r := (mTry sb kn (mDeed b (.exc c w)) l (padE N.length τ)).bind (kSeq mr)) re hl q)
    have q : postS G (WD E0) B (padE N.length τ) (L2.start N vs) H1 _ (if kn.contains c = true then hdl sb l c w (padE N.length τ) else .stuck) := q
    by_cases hk : kn.contains c = true
    · rw [if_pos hk] at q
      exact hdl_ok (A := []) (W := WF) (List.contains_iff_mem.mp hk) re.pad Fr.refl SameBut.refl e1 e2 e3 (fun h mh => hx c (List.contains_iff_mem.mp hk) _ (List.mem_map.mpr ⟨h, mh, rfl⟩)) (fun h mh i e => hdS_slots hh h mh i e) q
    · rw [if_neg hk] at q
      exact q.elim
  · have q := postS_seq (A := B) (B := A2) (post_body (N := N) (A := B ++ A2) (r := (mTry sb kn (mDeed b (.ok d)) l (padE N.length τ)).bind (kSeq mr)) re hl q)
    cases b with
    | true => exact q v _ H1 re.pad Fr.refl SameBut.refl (Res.of_rv e1)
    | false => exact q _ H1 re.pad Fr.refl SameBut.refl
end
structure FnTd (P : Program) (w : World) (K : PySem.W.Frag) (mg : Str → Option Value) (base : Heap) (G : GG) (k : Nat) (x : Str) (ps : List Str) (FT : DO → FV) : Prop where
  ex : ∃ (g : Addr) (oc : Value) (od an : Option Addr) (dV kV doc pm cdv ct : Value) (osl : Array (Option Value)) (pg : Arguments) (bg : List Stmt) (sg : Scope) (Ng : List Str) (a : Str),
    mg x = some (.ref g) ∧ PySem.W.keepIn K (.ref g) = true ∧ K.lookup g = some ⟨oc, od, .func (PySem.W.fnOf x x pg bg sg dV kV doc pm an cdv ct), osl⟩ ∧ PySem.W.codeIn K cdv x = true ∧ L2.Binds K (PySem.W.fnOf x x pg bg sg dV kV doc pm an cdv ct) ps [] ∧ FnScope Ng ps sg ∧
      Ng[0]? = some a ∧ Vis sg a ∧ (a == ("__debug__" : Str)) = false ∧ (a == ("__classdict__" : Str)) = false ∧
      ∀ (A : Around) (outer : List PySem.Env) (s : Shared) (H : Hp) (vs : List V) (τ : Env) (Q : VK) (tl : XK → Hp → VK → Prop) (pre : L2.St → Hp → Prop), Room k (A.deeper (envOfC x sg s.heap.objs.size g cdv)) →
        (∀ (W' : WX) (pn : List (Addr × Obj)) (xe : Value → Shared → Prop) (Ech : L2.St → XK) (p1 p2 : Pos), Takes ((cxOf CX0 P w K mg base Ng x sg g cdv A outer s H E0).tr pn xe) W' → (∀ σ1 cls d H', Ech σ1 cls d H' → W' cls d σ1 H') →
          PE ((cxOf CX0 P w K mg base Ng x sg g cdv A outer s H E0).tr pn xe) (.Call (.Name a p1) [] [] p2) (fun σ H Q => pre σ H ∧ tl (Ech σ) H Q)) →
        pre (L2.start Ng vs) H → vs.length = ps.length → (∀ (E1 : XK) (Q1 : VK), toldX G τ vs Q FT E1 → toldR G τ vs Q FT Q1 → tl E1 H Q1) →
        ∃ t, PSs (cxOf CX0 P w K mg base Ng x sg g cdv A outer s H E0).nox bg t ∧ t { nx := fun _ H' => Q .non H', rt := Q } (L2.start Ng vs) H
def kLam (FT : DO → FV) (τ : Env) : R (D × Env) → R (D × Env)
  | .ok (d, ρ) => if d.own = true then .stuck else match FT (.ok d) τ with
    | .ok (z, _) => if z.own = true then .stuck else .ok (z, ρ)
    | _ => .stuck
  | .exc c w ρ => match FT (.exc c w) τ with
    | .ok (z, _) => if z.own = true then .stuck else .ok (z, ρ)
    | _ => .stuck
  | .stuck => .stuck
def mLam (os : List Opd) (FT : DO → FV) (mb : ME) : ME := fun ρ => (ev os ρ).bind fun p => match rds os p.1 p.2 with
  | some ds => if ds.all (fun d => !d.own) = true then kLam FT (none :: ds.map some) (mb p.2) else .stuck
  | none => .stuck
theorem re_args {G : GG} [NoSlot G] {H : Hp} {ds : List D} {vs : List V} {f : V} (hp : G.pin H) (r : RVs G H ds vs) : RE G (none :: ds.map some) ((f :: vs).map some) H := (RE.of_rvs hp r).1.consO fun d e => by cases e
theorem own_args {G : GG} [NoSlot G] {H : Hp} {ds : List D} {vs : List V} {f : V} (hp : G.pin H) (r : RVs G H ds vs) (a : Addr) : ¬ own (none :: ds.map some) ((f :: vs).map some) a := fun z => by
  rcases own_cons z with ⟨d, e, _⟩ | z
  · cases e
  · exact (RE.of_rvs hp r).2 a z
section
variable {X : Cx} {G : GG} [NoSlot G] {W : WX} {bs : List Addr} {j k : Nat} {x : Str} {ps : List Str} {FT : DO → FV} {params : Arguments} {body : Expr} {scope : Scope} {lpos p pos : Pos} {es : List Expr} {os : List Opd} {mb : ME}
theorem rdLam {σ : L2.St} {H : Hp} {Q : VK} {ρ ρ0 : Env} {ds : List D} {vs : List V} {f : V} {H0 : Hp} (fr0 : Fr ρ0 σ H0 ρ σ H) (re : RE G ρ σ H) (rv : RVs G H ds vs) (q : postE G W ρ0 σ H0 Q (kLam FT (none :: ds.map some) (mb ρ)))
    {E1 : XK} {Q1 : VK} (h1 : toldX G (none :: ds.map some) (f :: vs) Q FT E1) (h2 : toldR G (none :: ds.map some) (f :: vs) Q FT Q1) : rdE G (WD E1) mb σ H Q1 := by
  refine ⟨ρ, re, ?_⟩
  have fin : ∀ {ρ1 : Env} {H1 : Hp} {z : D} {τ' : Env}, RE G ρ1 σ H1 → Fr ρ σ H ρ1 σ H1 → z.own = false → (∀ v H', RE G ρ1 σ H' → Fr ρ0 σ H0 ρ1 σ H' → Res G ρ0 σ H0 ρ1 σ H' z v → Q v H') →
      postF G (none :: ds.map some) ((f :: vs).map some) H1 Q E0 (.ok (z, τ')) := fun {ρ1 H1 z τ'} r1 f1 oz k v H' r2 f2 rs => by
    have sm : SameT H1 H' := f2.sameT (own_args r1.pin (rv.mono (f1.fix re)))
    exact k v H' (r1.sameT sm) ((fr0.trans f1).trans sm.fr) (Res.of_rv (rs.1.rv oz))
  cases em : mb ρ with
  | stuck => rw [em] at q; exact q
  | ok pr =>
    rw [em] at q
    obtain ⟨d, ρ1⟩ := pr
    have q : postE G W ρ0 σ H0 Q (if d.own = true then .stuck else match FT (.ok d) (none :: ds.map some) with
      | .ok (z, _) => if z.own = true then .stuck else .ok (z, ρ1)
      | _ => .stuck) := q
    intro v H1 r1 f1 rs
    by_cases o : d.own = true
    · rw [if_pos o] at q; exact q.elim
    rw [if_neg o] at q
    refine h2 d v H1 (rs.1.rv (by simpa using o)) (re_args r1.pin (rv.mono (f1.fix re))) ?_
    cases et : FT (.ok d) (none :: ds.map some) with
    | exc c w τ' => rw [et] at q; exact q.elim
    | stuck => rw [et] at q; exact q.elim
    | ok pz =>
      obtain ⟨z, τ'⟩ := pz
      rw [et] at q
      by_cases oz : z.own = true
      · simp only [if_pos oz] at q; exact q.elim
      · simp only [if_neg oz] at q
        exact fin r1 f1 (by simpa using oz) q
  | exc c w ρ1 =>
    rw [em] at q
    have q : postE G W ρ0 σ H0 Q (match FT (.exc c w) (none :: ds.map some) with
      | .ok (z, _) => if z.own = true then .stuck else .ok (z, ρ1)
      | _ => .stuck) := q
    intro σ1 H1 dd fs v r1 f1 sb e1 e2 e3
    have es := sb.nil
    subst es
    refine h1 c w dd fs v H1 e1 e2 e3 (re_args r1.pin (rv.mono (f1.fix re))) ?_
    cases et : FT (.exc c w) (none :: ds.map some) with
    | exc c' w' τ' => rw [et] at q; exact q.elim
    | stuck => rw [et] at q; exact q.elim
    | ok pz =>
      obtain ⟨z, τ'⟩ := pz
      rw [et] at q
      by_cases oz : z.own = true
      · simp only [if_pos oz] at q; exact q.elim
      · simp only [if_neg oz] at q
        exact fin r1 f1 (by simpa using oz) q
theorem se_lam (hpin : ∀ H, G.pin H → ∀ P ∈ bs, TabN H P) (hs : X.stack = X.env :: X.outer) (hf : X.env.frame = some X.env.locals) (T : FnTd X.prog X.w X.K X.mg X.base G j x ps FT) (hj : j ≤ k + 1) (LB : ∃ c P, X.env.code = .ref c ∧ LamX.TabB X.base X.mg c P ∧ P ∈ bs ∧ nmT P = X.env.qual ++ "<lambda>")
    (hr : Room (k + 2) X.A) (L : LamX.LamS X.env.scope scope) (hn : os.length + 1 = ps.length) (ha : SOs X G W es os)
    (hbody : ∀ (A : Around) (outer : List PySem.Env) (s : Shared) (H : Hp) (E : XK) (f c' : Addr), Room k (A.deeper (LamX.lamEnv X scope s.heap.objs.size f c')) → SE (LamX.lamCx X A outer s H E scope f c') G (WD E) body mb)
    (hg : Gl X x := by rfl) (hdef : defaultsOf params X.env = ([], []) := by rfl) (bnd : ∀ (q : Str) (cl : List (Str × Addr)) (pm cv ctv : Value), bindArgs (PySem.W.kla_fn "<lambda>" q params body scope cl pm cv ctv) ⟨[], []⟩ = pure [] := by intros; rfl)
    (hdb : (x == ("__debug__" : Str)) = false := by decide) (he : starEach (.Lambda params body scope lpos :: es) X.env = (false, eval (.Lambda params body scope lpos) X.env) :: starEach es X.env := by rfl) (hpl : (backTo pos (starEach es X.env)).any (·.1) = false := by rfl) :
    SE X G W (.Call (.Name x p) (.Lambda params body scope lpos :: es) [] pos) (mLam os FT mb) := by
  refine ⟨fun pins s σ H Q I q => ?_⟩
  obtain ⟨ρ, re, q⟩ := q
  obtain ⟨g, oc, od, an, dV, kV, doc, pm, cdv, ct, osl, pg, bg, sg, Ng, a, hm, hk, lk, hcg, hb, Sg, hN, hva, hda, hca, told⟩ := T.ex
  obtain ⟨c, P, hcode, TB, hP, hq⟩ := LB
  refine wpAny_Call_Name_kw (ld_glob I hg hm ?_ hdb)
  refine PySem.W.callWith_K (h₀ := X.base) I.ok.mod.kin hk ?_ he hpl
  show wpAny _ _ (spliced (backTo pos (starEach (.Lambda params body scope lpos :: es) X.env))) _ _ s
  rw [he]
  show wpAny _ _ (spliced ((false, eval (.Lambda params body scope lpos) X.env) :: backTo pos (starEach es X.env))) _ _ s
  refine Calls.spliced_cons (lam_make3 I TB hcode hq (hpin H re.pin P hP) hdef (L.has I.ok) fun f c' pm' ctv H1 s' I1 sm hfo hfn hfr hco => ?_)
  have fL : f ≠ X.env.locals := fun z => hfr (by
    rw [hs]
    exact List.mem_filterMap.mpr ⟨X.env, List.mem_cons_self, by rw [hf, z]⟩)
  have fF : f ∉ X.fs := fun z => hfr (by
    rw [hs]
    obtain ⟨e, h1, h2⟩ := List.mem_filterMap.mp z
    exact List.mem_filterMap.mpr ⟨e, List.mem_cons_of_mem _ h1, h2⟩)
  have I1p : Inv X ((f, PySem.W.kla_obj "<lambda>" (X.env.qual ++ "<lambda>") params body scope (cloFrom X.env.cells scope.names []) pm' c' ctv) :: pins) σ H1 s' := I1.pins_of fun r hr => by
    rcases List.mem_cons.mp hr with e | hr
    · cases e
      exact ⟨hfo, hfn, fL, fF, fun v z => by cases z⟩
    · exact I1.pin r (List.mem_append_right _ hr)
  have re1 : RE G ρ σ H1 := re.sameT sm
  have nco : ∀ {ρ' : Env} {H' : Hp}, RE G ρ' σ H' → H' c' = some (LamX.CodeO c' (X.env.qual ++ "<lambda>")) → ¬ own ρ' σ c' := fun {ρ' H'} r e z => by
    obtain ⟨u, hu, m⟩ := r.there z
    rw [e] at hu
    exact m.code _ _ (Option.some.inj hu).symm
  have hK : tOs G W os σ H1 fun vs H2 => ∃ ds ρ1, RVs G H2 ds vs ∧ RE G ρ1 σ H2 ∧ Fr ρ σ H ρ1 σ H2 ∧ postE G W ρ σ H Q (kLam FT (none :: ds.map some) (mb ρ1)) ∧ H2 c' = some (LamX.CodeO c' (X.env.qual ++ "<lambda>")) ∧ vs.length = os.length := by
    refine opds_run re1 ?_
    unfold mLam at q
    cases e : ev os ρ with
    | exc c w ρ' => rw [e] at q; exact wexc.later (A := []) (B := []) q sm.fr SameBut.refl
    | stuck => rw [e] at q; exact q
    | ok pp =>
      obtain ⟨xs, ρ1⟩ := pp
      rw [e] at q
      intro vs H2 re2 fr2 hq2
      have q : postE G W ρ σ H Q (match rds os xs ρ1 with
        | some ds => if ds.all (fun d => !d.own) = true then kLam FT (none :: ds.map some) (mb ρ1) else .stuck
        | none => .stuck) := q
      cases e2 : rds os xs ρ1 with
      | none => rw [e2] at q; exact q.elim
      | some ds =>
        rw [e2] at q
        by_cases ow : ds.all (fun d => !d.own) = true
        · simp only [if_pos ow] at q
          have rv := (hq2 ds e2).rvs ow
          exact ⟨ds, ρ1, rv, re2, sm.fr.trans fr2, q, fr2.ob c' _ hco rfl (nco re1 hco), by rw [← rv.length, rds_len e2]⟩
        · simp only [if_neg ow] at q
          exact q.elim
  refine thn (ha.run pos _ s' σ H1 _ I1p hK) fun us s2 ⟨vs, H2, I2p, r2, ds, ρ1, rv, re2, fr2, q2, hc2, lv⟩ => ?_
  have I2 : Inv X pins σ H2 s2 := I2p.pins_of fun r hr => I2p.pin r (List.mem_append_right _ (List.mem_cons_of_mem _ hr))
  refine ⟨I2.kIn, ?_⟩
  have hfo2 := (I2p.pin _ (List.mem_append_right _ List.mem_cons_self)).1
  have hfn2 := (I2p.pin _ (List.mem_append_right _ List.mem_cons_self)).2.1
  have lps : (V.ref f :: vs).length = ps.length := by rw [List.length_cons, lv, hn]
  have lus : (Value.ref f :: us).length = ps.length := by rw [List.length_cons, ← r2.length, lv, hn]
  have hbt := hb s2 (.ref f :: us) I2.kIn (by rw [List.append_nil]; exact lus)
  rw [List.append_nil] at hbt
  have rc : codeAny (model X.prog X.w) X.A (.call (.ref g) ⟨.ref f :: us, []⟩) (CR CX0 X.stack X.prog X.w H2 s2 Q E0) s2 := by
    refine LamX.run_ofS (N := Ng) (ps := ps) (us := .ref f :: us) (vs := .ref f :: vs) lk hcg Sg hr.lo I2.env0 hbt (.cons rfl r2) lps fun hr0 => ?_
    have hr' : Room _ (X.A.deeper (envOfC x sg s2.heap.objs.size g cdv)) := ⟨hr0, hr.gd⟩
    obtain ⟨t', h1, h2⟩ := told X.A X.stack s2 H2 (.ref f :: vs) (none :: ds.map some) Q (fun E H' Q' => rdE G (WD E) mb σ H' Q') (fun σ' H' => σ'[0]? = some (some (.ref f)) ∧ H' c' = some (LamX.CodeO c' (X.env.qual ++ "<lambda>"))) (hr'.mono hj)
      (fun W' pn xe Ech p1 p2 tk hW => pe_wk (pe_actS (i := 0) (t := fun E => rdE G (WD E) mb) I2 L hfo2 hfn2 hfr (bnd _ _ _ _ _) tk hW hr' (fun A outer s H E hr2 => hbody A outer s H E f c' hr2) hN hva hda hca) fun σ' H' Q' z => ⟨z.1.1, z.1.2, z.2⟩)
      ⟨start_get.mpr rfl, hc2⟩ lps fun E1 Q1 h1 h2 => rdLam fr2 re2 rv q2 h1 h2
    exact ⟨t', h1.nox, h2⟩
  refine wpAny_call (codeAny_mono rc fun r s3 hq => ?_)
  cases r with
  | error e => exact (show False from hq).elim
  | ok fl =>
    cases fl with
    | ret u => exact I2.after hq
    | next => exact False.elim hq
    | brk => exact False.elim hq
    | cont => exact False.elim hq
end
end TV
namespace TV
open PySem PySem.Spec PyProof.Rows L2 PySem.RFX
theorem ct_lam {X : Cx} {G : GG} [NoSlot G] {scope : Scope} {f c' : Addr} {A : Around} {outer : List PySem.Env} {s : Shared} {H : Hp} {E : XK} {k : Nat} (hG : G.K = X.K) (nd : X.N.Nodup) (hr : Room k (A.deeper (LamX.lamEnv X scope s.heap.objs.size f c'))) :
    CT (LamX.lamCx X A outer s H E scope f c') G (WD E) := ⟨hG, fun _ => rfl, takes_of rfl rfl rfl rfl, passes_of rfl, nd, hr.units, hr.gd⟩
theorem lam_b {base : Heap} {mg : Str → Option Value} {bs : List Addr} {fd : FuncData} {q : Str} {cdv : Value} (h : LamB base mg bs fd q) (e : fd.code = cdv) : ∃ c P, cdv = .ref c ∧ LamX.TabB base mg c P ∧ P ∈ bs ∧ nmT P = q := by
  obtain ⟨c, P, h1, h2⟩ := h.ex
  exact ⟨c, P, e ▸ h1, h2⟩
theorem td_mk {P : Program} {w : World} {K : PySem.W.Frag} {mg : Str → Option Value} {base : Heap} {G : GG} [NoSlot G] {k : Nat} {x a : Str} {st : Stmt} {g : Addr} {fd : FuncData} {N ps : List Str} {B A2 kn : List Nat} {sb : Nat → Nat → Bool} {b : Bool} {h₀ : ExceptHandler} {hds : List ExceptHandler} {pos : Pos} {S0 : Stmt} {rest : List Stmt} {l : List HdM} {mr : MS}
    (F : Fun K x x st g fd) (hm : mg x = some (.ref g)) (S : FnScope N ps (defScope st)) (hb : L2.Binds K fd ps []) (hN : N[0]? = some a) (va : Vis (defScope st) a) (ht : defBody st = .Try [S0] (h₀ :: hds) [] [] pos :: rest) (hG : G.K = K)
    (hx : ∀ c ∈ kn, ∀ j ∈ l.map (·.1), PySem.W.exmOne K (.ref (G.cl c)) (.ref (G.cl j)) = some (sb c j))
    (h0 : ∀ (X : Cx) (te : L2.St → VK → Hp → Prop) (hp : ∀ (p1 p2 : Pos), PE X (.Call (.Name a p1) [] [] p2) (fun σ H Q => te σ Q H)), PS X S0 (fun E σ H => te σ (kDeed b E σ) H))
    (hh : ∀ (cdv : Value) (A : Around) (outer : List PySem.Env) (s : Shared) (H : Hp), Room k (A.deeper (envOfC x (defScope st) s.heap.objs.size g cdv)) → CT (cxOf CX0 P w K mg base N x (defScope st) g cdv A outer s H E0).nox G WF →
      HdS (cxOf CX0 P w K mg base N x (defScope st) g cdv A outer s H E0).nox G B kn (h₀ :: hds) l ∧ SSs (cxOf CX0 P w K mg base N x (defScope st) g cdv A outer s H E0).nox G WF rest A2 mr)
    (hda : (a == ("__debug__" : Str)) = false := by decide) (hca : (a == ("__classdict__" : Str)) = false := by decide) :
    FnTd P w K mg base G k x ps (fTold N.length ps.length (B ++ A2) sb kn b l mr) := by
  obtain ⟨oc, od, kV, doc, pm, an, cdv, ct, osl, rfl, lk, hc⟩ := F.ex
  refine ⟨g, oc, od, an, _, kV, doc, pm, cdv, ct, osl, _, _, _, N, a, hm, F.kp, lk, hc, hb, S, hN, va, hda, hca, fun A outer s H vs τ Q tl pre hr act hp hl hq => ?_⟩
  have c := ct_body (P := P) (w := w) (mg := mg) (base := base) (qual := x) (f := g) (cd := cdv) (outer := outer) (s := s) (H := H) (E := E0) (G := G) hG S hr
  obtain ⟨h1, h2⟩ := hh cdv A outer s H hr c
  rw [ht]
  exact told_gives (tl := tl) (pre := pre) c rfl rfl hx h1 h2 (fun W' pn xe Ech tk hW => h0 _ (fun σ Q H => pre σ H ∧ tl (Ech σ) H Q) fun p1 p2 => act W' pn xe Ech p1 p2 tk hW) hp hl hq
theorem deed_r {X : Cx} {te : L2.St → VK → Hp → Prop} {a : Str} {p1 p2 p3 : Pos} (hp : ∀ (p1 p2 : Pos), PE X (.Call (.Name a p1) [] [] p2) (fun σ H Q => te σ Q H)) : PS X (.Return (some (.Call (.Name a p1) [] [] p2)) p3) (fun E σ H => te σ (kDeed true E σ) H) := ps_ret (hp p1 p2)
section
variable {X : Cx} {G : GG} [NoSlot G] {W : WX} {j k c : Nat} {x : Str} {p pos : Pos} {e : Expr} {es : List Expr} {os : List Opd} {i : Nat} {E : XK} {Fs : List (Nat × FV)}
structure FnVs (P : Program) (w : World) (K : PySem.W.Frag) (mg : Str → Option Value) (base : Heap) (G : GG) (k n : Nat) (Fs : List (Nat × FV)) : Prop where
  ex : ∀ c F, Fs.lookup c = some F → ∃ fd ps, FnOk P w K mg base (L2.CX P w) k (G.cl c) fd ps (spV G n F) ∧ PySem.W.keepIn K (.ref (G.cl c)) = true ∧ Binds K fd ps []
end
def spLawT (K : PySem.W.Frag) (n : Nat) (bs : List Addr) : Sp := fun vs H Q _ => ∃ (a : Addr) (ns : List Int), vs = [.ref a] ∧ ns.length ≤ n ∧ (∀ P ∈ bs, H P = some (.tbl #[])) ∧ SqL K H a (ns.map V.int) ∧ ∀ H', Q (.bl true) H'
theorem frz_env {P : Program} {w : World} {K : PySem.W.Frag} {mg : Str → Option Value} {base : Heap} {A : Around} {outer : List PySem.Env} {s : Shared} {H : Hp} {a : Addr} {xs : List V} (e0 : Env0 P w K mg base A outer s H) (h : H a = some (.lst xs)) :
    ∃ o, Env0 P w K mg base A outer s (upd H a (.frz o (.lst xs))) ∧ ∀ (Q : VK) (E : XK) (r : Result) (s' : Shared), CR CX0 outer P w (upd H a (.frz o (.lst xs))) s Q E r s' → CR CX0 outer P w H s Q E r s' := by
  have x := e0.hok a _ h
  obtain ⟨x1, its, n, x2, x3⟩ := id x
  have un : ∀ b, H b = none → upd H a (.frz { cls := .type "list", data := .seq its.toArray n } (.lst xs)) b = none := fun b hb => by
    rw [upd_ne (fun z => by subst z; rw [h] at hb; cases hb)]
    exact hb
  have ot : ∀ b u, H b = some u → u ≠ .lst xs → upd H a (.frz { cls := .type "list", data := .seq its.toArray n } (.lst xs)) b = some u := fun b u hb n => by
    rw [upd_ne (fun z => by subst z; rw [h] at hb; exact n (Option.some.inj hb).symm)]
    exact hb
  refine ⟨{ cls := .type "list", data := .seq its.toArray n }, ⟨e0.frames, e0.mod, fun b o hb => ⟨(e0.bs b o hb).1, un b (e0.bs b o hb).2⟩, e0.bsz, e0.funs, fun b hb => un b (e0.frf b hb), fun b u hb => ?_, e0.bare⟩, fun Q E r s' hq => ?_⟩
  · have tr : ∀ {b : Addr} {u : HO}, ObjOk P w H s.heap b u → ObjOk P w (upd H a (.frz { cls := .type "list", data := .seq its.toArray n } (.lst xs))) s.heap b u := fun {b u} y =>
      y.stay (fun _ _ _ q => q) (fun d q => ot d _ q (fun z => by cases z)) fun d ys q => ot d _ q (fun z => by cases z)
    by_cases hb2 : b = a
    · subst hb2
      rw [upd_same] at hb
      cases hb
      exact ⟨x3, tr x⟩
    · rw [upd_ne hb2] at hb
      exact tr (e0.hok b u hb)
  · cases r with
    | error e => exact hq
    | ok fl =>
      cases fl with
      | ret u =>
        obtain ⟨v, H', q1, q2, q3, q4⟩ := hq
        exact ⟨v, H', q1, q2, ⟨fun b o e n => q3.keep b o e (un b n), fun b o e n => q3.slot b o e (un b n), fun b o e n => q3.free b o e (un b n), q3.there, fun b ys e => q3.tups b ys (ot b _ e (fun z => by cases z)), fun b o ys e => q3.frzs b o ys (ot b _ e (fun z => by cases z)), fun b ps e => q3.tbls b ps (ot b _ e (fun z => by cases z))⟩, q4⟩
      | next => exact hq
      | brk => exact hq
      | cont => exact hq
theorem law_impT {P : Program} {w : World} {K : PySem.W.Frag} {mg : Str → Option Value} {base : Heap} {fa : Addr} {k n : Nat} {x : Str} {fd : FuncData} {F : FV} {cl : Nat → Addr} {nm : Nat → List Str} {bs : List Addr} (hF : ∀ ns : List Int, ns.length ≤ n → ∃ τ, F [some (.frl (ns.map D.int))] = .ok (.bl true, τ))
    (h : FnOk P w K mg base CX0 k fa fd [x] (spV0 (GG.tb K cl nm bs) 1 F)) : FnOk P w K mg base CX0 k fa fd [x] (spLawT K n bs) := by
  refine ⟨fun vs H Q E ⟨a, ns, e, _⟩ => by rw [e]; rfl, fun A outer s H args us vs Q E hr e0 hb rv ⟨a, ns, ev, hn, hT, hs, q⟩ => ?_⟩
  subst ev
  obtain ⟨τ, eF⟩ := hF ns hn
  have go : ∀ H : Hp, (∀ P ∈ bs, H P = some (.tbl #[])) → FrL K H a (ns.map V.int) → spV0 (GG.tb K cl nm bs) 1 F [.ref a] H Q E := fun H hT fl => by
    have r : RVs (GG.tb K cl nm bs) H [.frl (ns.map D.int)] [.ref a] := .cons (.frl fl (RVs.of_ints ns)) .nil
    refine ⟨rfl, [some (.frl (ns.map D.int))], (RE.of_rvs (fun P hP => LamX.TabS.nil (hT P hP)) r).1, ?_⟩
    rw [eF]
    intro v H' _ _ z
    cases z.1
    exact q H'
  rcases hs with (hs | hs) | hs
  · obtain ⟨o, e1, bk⟩ := frz_env e0 hs
    refine codeAny_mono (h.run A outer s _ args us [.ref a] Q E hr e1 hb rv (go _ (fun P hP => ?_) (.inl ⟨o, upd_same⟩))) fun r s' hq => bk Q E r s' hq
    rw [upd_ne (fun z => by
      have := hT P hP
      rw [z, hs] at this
      cases this)]
    exact hT P hP
  · exact h.run A outer s H args us [.ref a] Q E hr e0 hb rv (go H hT (.inl hs))
  · exact h.run A outer s H args us [.ref a] Q E hr e0 hb rv (go H hT (.inr hs))
theorem tabs_of {ts bs : List Addr} {h : Heap} (k : ∀ P ∈ ts, h.get? P = some (PySem.W.tabObj #[])) (e : (bs.all fun P => ts.contains P) = true) : ∀ P ∈ bs, h.get? P = some (PySem.W.tabObj #[]) := fun P hP => k P (List.contains_iff_mem.mp (List.all_eq_true.mp e P hP))
def LawT (l : PySem.W.OpenLaw) (w : World) (K : PySem.W.Frag) (k : Nat) (x : Str) (mg : Str → Option Value) (fa : Addr) (h : Heap) : Prop := ∃ (fd : FuncData) (cs : List (Addr × Addr)), (∀ p ∈ cs, h.get? p.2 = some (PySem.W.tabObj #[])) ∧ (∀ p ∈ cs, K.lookup p.2 = none) ∧ (∀ p ∈ cs, PySem.W.codeHdIn K p.1 p.2 = true) ∧
  (∀ (s : Shared) (u : Value), BindsTo s fd ⟨[u], []⟩ [(x, u)]) ∧ ∀ base : Heap, K.In base → base.Ns mainGlobals mg → (∀ p ∈ cs, LamX.TabB base mg p.1 p.2) → FnOk l.prog w K mg base CX0 k fa fd [x] (spLawT K 63 (cs.map (·.2)))
theorem walkT {l : PySem.W.OpenLaw} {k : Nat} {x : Str} {q : Program} {loose : List Str} {XP : (Str → Option Value) → Heap → Prop} {YP : World → Heap → Prop} {d : DefRec} {K : Params → PySem.W.Frag} (hn : l.most = some 63) (hdf : d.params.defaults = []) (hr : Room k callerA)
    (hY : ∀ (w : World) (h : Heap), YP w h → (K w.params).In h) (F : ∀ (w : World) (mg : Str → Option Value) (fa : Addr) (h : Heap), YP w h → (K w.params).In h → h.Ns mainGlobals mg → mg d.name = some (.ref fa) → LawT l w (K w.params) k x mg fa h) :
    PySem.W.WalkO q loose XP YP l.row.toRowW d [] (fun f vs => PySem.call f vs) :=
  Att.attach_callB hn hdf fun w s₀ s₁ mg mb fa o pm cd doc a vs ns G Y ho hd hcd hmg hobj hints hlen hbits hg => by
    obtain ⟨fd, cs, h1, h2, h3, h4, h5⟩ := F w mg fa _ Y (hY w _ Y) G.T.g hmg
    exact law_go (cs := cs) (hY w _ Y) G.T.g G.T.b G.T.builtins G.T.nolimit hg h1 h2 (fun p hp => PySem.W.codeHd_of_K (hY w _ Y) (h3 p hp)) G.T.bmain hobj hints (Nat.le_trans hlen (by decide)) hr h5 h4
      fun H hT _ hS => ⟨a, ns, rfl, hlen, fun P hP => by
        obtain ⟨p, hp, e⟩ := List.mem_map.mp hP
        rw [← e]
        exact hT p hp, hS, fun _ => rfl⟩
end TV
namespace TV
open PySem PySem.Spec PyProof.Rows L2
end TV
namespace TV
open PySem PySem.Spec PyProof.Rows L2
end TV
namespace TV
open PySem PySem.Spec PyProof.Rows L2
section
variable {X : Cx} {G : GG} [NoSlot G] {W : WX} {tg a b : Expr} {oa ob : Opd} {p pos : Pos}
end
section
variable {X : Cx} {G : GG} [NoSlot G] {W : WX}
end
end TV
namespace TV
open PySem PySem.Spec PyProof.Rows L2
end TV
namespace TV
open PySem
variable {vs vs1 : List Nat} {m m1 : MI} {gt gt1 : D → Env → R Env} {t t1 : MT} {e : ME} {ρ : Env}
end TV
namespace TV
open PySem PySem.Spec PyProof.Rows L2
theorem P3N.mem {kvs : List (List (Option Int) × Addr × V)} {xs : List (List (Option Int) × Addr × Value)} (r : P3N kvs xs) : ∀ x ∈ xs, ∃ p ∈ kvs, p.1 = x.1 ∧ p.2.1 = x.2.1 := by
  induction r with
  | nil => intro x hx; exact nomatch hx
  | @cons p q ps qs hq t ih =>
    intro x hx
    rcases List.mem_cons.mp hx with e | hx
    · subst e
      exact ⟨p, List.mem_cons_self, hq.1, hq.2.1⟩
    · obtain ⟨p', hp, z⟩ := ih x hx
      exact ⟨p', List.mem_cons_of_mem _ hp, z⟩
section
variable {X : Cx} {pins : List (Addr × Obj)} {σ : L2.St} {H : Hp} {s : Shared} {a b : Addr} {kvs : List (List (Option Int) × Addr × V)} {k : List (Option Int)}
end
def valN (kvs : List (List (Option Int) × Addr × V)) (k : List (Option Int)) : Option V := (kvs.find? fun p => decide (p.1 = k)).map (·.2.2)
def putN (kvs : List (List (Option Int) × Addr × V)) (k : List (Option Int)) (b : Addr) (v : V) : List (List (Option Int) × Addr × V) :=
  if (kvs.any fun p => decide (p.1 = k)) = true then kvs.map (fun p => if p.1 = k then (p.1, p.2.1, v) else p) else kvs ++ [(k, b, v)]
theorem P3N.val {kvs : List (List (Option Int) × Addr × V)} {xs : List (List (Option Int) × Addr × Value)} (r : P3N kvs xs) (k : List (Option Int)) : RelO (valN kvs k) ((atKey xs k).map (·.2)) := by
  induction r with
  | nil => exact True.intro
  | @cons p q ps qs h t ih =>
    obtain ⟨h1, _, h2⟩ := h
    by_cases e : p.1 = k
    · have e' : q.1 = k := h1.symm.trans e
      have b : atKey (q :: qs) k = some q.2 := by simp [atKey, List.find?_cons, e']
      have c : valN (p :: ps) k = some p.2.2 := by simp [valN, List.find?_cons, e]
      rw [c, b]; exact h2
    · have e' : ¬ q.1 = k := fun z => e (h1.trans z)
      have b : atKey (q :: qs) k = atKey qs k := by simp [atKey, List.find?_cons, e']
      have c : valN (p :: ps) k = valN ps k := by simp [valN, List.find?_cons, e]
      rw [c, b]; exact ih
theorem P3N.repl {kvs : List (List (Option Int) × Addr × V)} {xs : List (List (Option Int) × Addr × Value)} (r : P3N kvs xs) (k : List (Option Int)) {y : V} {u : Value} (ry : RelV y u) :
    P3N (kvs.map fun p => if p.1 = k then (p.1, p.2.1, y) else p) (xs.map (putAt k u)) := by
  induction r with
  | nil => exact .nil
  | @cons p q ps qs h t ih =>
    rw [List.map_cons, List.map_cons]
    refine .cons ?_ ih
    obtain ⟨h1, h2, h3⟩ := h
    unfold putAt
    by_cases e : p.1 = k
    · rw [if_pos e, if_pos (h1.symm.trans e)]; exact ⟨h1, h2, ry⟩
    · rw [if_neg e, if_neg (fun z => e (h1.trans z))]; exact ⟨h1, h2, h3⟩
theorem valN_any (kvs : List (List (Option Int) × Addr × V)) (k : List (Option Int)) : (kvs.any fun p => decide (p.1 = k)) = (valN kvs k).isSome := by
  induction kvs with
  | nil => rfl
  | cons p ps ih =>
    unfold valN at *
    rw [List.any_cons, List.find?_cons]
    by_cases e : p.1 = k <;> simp [e, ih]
theorem P3N.put {kvs : List (List (Option Int) × Addr × V)} {xs : List (List (Option Int) × Addr × Value)} (r : P3N kvs xs) (k : List (Option Int)) (b : Addr) {y : V} {u : Value} (ry : RelV y u) : P3N (putN kvs k b y) (storedH xs k b u) := by
  have e : (kvs.any fun p => decide (p.1 = k)) = (atKey xs k).isSome := by
    rw [valN_any, (r.val k).isSome_eq, Option.isSome_map]
  unfold putN storedH
  rw [e]
  by_cases q : (atKey xs k).isSome = true
  · rw [if_pos q, if_pos q]; exact r.repl k ry
  · rw [if_neg q, if_neg q]; exact Paired.snoc r ⟨rfl, rfl, ry⟩
section
variable {X : Cx} {o i e value : Expr} {pos pos' tpos : Pos} {td ty tv : TE}
end
def oDn : Option Int → D
  | none => .non
  | some i => .int i
def dOI : D → Option (Option Int)
  | .non => some none
  | .int i => some (some i)
  | _ => none
theorem dOI_eq {d : D} {k : Option Int} (e : dOI d = some k) : d = oDn k := by
  cases d <;> cases e <;> rfl
theorem RV.oint {G : GG} {H : Hp} {k : Option Int} {v : V} (h : RV G H (oDn k) v) : v = oV k := by
  cases k with
  | none => cases (h : RV G H .non v); rfl
  | some i => cases (h : RV G H (.int i) v); rfl
section
variable {X : Cx} {G : GG} [NoSlot G] {W : WX} {pos pos' p : Pos} {a b e : Expr} {oa ob oi : Opd} {m : ME} {i : Nat} {x : Str}
end
section
variable {X : Cx} {o e f : Expr} {apos cpos : Pos} {td ty tx : TE}
end
section
variable {X : Cx} {G : GG} [NoSlot G] {W : WX} {o e f : Expr} {oo oe of : Opd} {apos cpos pos p : Pos} {a : Expr} {oa : Opd}
end
end TV
namespace TV
open PySem PySem.Spec PyProof.Rows L2
def valO (kvs : List (Option Int × V)) (k : Option Int) : Option V := (kvs.find? fun p => decide (p.1 = k)).map (·.2)
def putO (kvs : List (Option Int × V)) (k : Option Int) (v : V) : List (Option Int × V) :=
  if (kvs.any fun p => decide (p.1 = k)) = true then kvs.map (fun p => if p.1 = k then (p.1, v) else p) else kvs ++ [(k, v)]
theorem P2O.val {kvs : List (Option Int × V)} {xs : List (Option Int × Value)} (r : P2O kvs xs) (k : Option Int) : RelO (valO kvs k) (valueAt xs k) := by
  induction r with
  | nil => exact True.intro
  | @cons p q ps qs h t ih =>
    obtain ⟨h1, h2⟩ := h
    by_cases e : p.1 = k
    · have e' : q.1 = k := h1.symm.trans e
      have b : valueAt (q :: qs) k = some q.2 := by simp [valueAt, List.find?_cons, e']
      have c : valO (p :: ps) k = some p.2 := by simp [valO, List.find?_cons, e]
      rw [c, b]; exact h2
    · have e' : ¬ q.1 = k := fun z => e (h1.trans z)
      have b : valueAt (q :: qs) k = valueAt qs k := by simp [valueAt, List.find?_cons, e']
      have c : valO (p :: ps) k = valO ps k := by simp [valO, List.find?_cons, e]
      rw [c, b]; exact ih
theorem P2O.repl {kvs : List (Option Int × V)} {xs : List (Option Int × Value)} (r : P2O kvs xs) (k : Option Int) {y : V} {u : Value} (ry : RelV y u) :
    P2O (kvs.map fun p => if p.1 = k then (p.1, y) else p) (xs.map fun p => if p.1 = k then (p.1, u) else p) := by
  induction r with
  | nil => exact .nil
  | @cons p q ps qs h t ih =>
    rw [List.map_cons, List.map_cons]
    refine .cons ?_ ih
    obtain ⟨h1, h2⟩ := h
    by_cases e : p.1 = k
    · rw [if_pos e, if_pos (h1.symm.trans e)]; exact ⟨h1, ry⟩
    · rw [if_neg e, if_neg (fun z => e (h1.trans z))]; exact ⟨h1, h2⟩
theorem P2O.any {kvs : List (Option Int × V)} {xs : List (Option Int × Value)} (r : P2O kvs xs) (k : Option Int) : (kvs.any fun p => decide (p.1 = k)) = xs.any fun p => decide (p.1 = k) := by
  induction r with
  | nil => rfl
  | @cons p q ps qs h t ih => rw [List.any_cons, List.any_cons, ih, h.1]
theorem P2O.put {kvs : List (Option Int × V)} {xs : List (Option Int × Value)} (r : P2O kvs xs) (k : Option Int) {y : V} {u : Value} (ry : RelV y u) : P2O (putO kvs k y) (stored xs k u) := by
  unfold putO stored
  rw [r.any k]
  by_cases q : (xs.any fun p => decide (p.1 = k)) = true
  · rw [if_pos q, if_pos q]; exact r.repl k ry
  · rw [if_neg q, if_neg q]; exact Paired.snoc r ⟨rfl, ry⟩
section
variable {X : Cx} {pins : List (Addr × Obj)} {σ : L2.St} {H : Hp} {s : Shared} {a : Addr} {kvs : List (Option Int × V)}
end
section
variable {X : Cx} {o i e f value : Expr} {pos pos' tpos apos cpos : Pos} {td ty tv tx : TE}
end
theorem RS.ok {G : GG} [NoSlot G] {H : Hp} {d : D} {v : V} {k : Option Int} (h : RS G H d v) (e : dOI d = some k) : v = oV k := by
  rw [dOI_eq e] at h
  exact RV.oint (h.rv (by cases k <;> rfl))
section
variable {X : Cx} {G : GG} [NoSlot G] {W : WX} {pos pos' apos cpos p : Pos} {o a b e f : Expr} {oo oa ob oe of : Opd} {m : ME} {i : Nat} {x : Str}
end
end TV
namespace TV
open PySem PySem.Spec PyProof.Rows L2
end TV
namespace SrtU
open PySem PySem.Spec PyProof.Rows SrtO TV L2
section
variable {prog : Program} {w : World} {A : Around} {E : Value → Shared → Prop} {s : Shared}
end
end SrtU
namespace TV
open PySem PySem.Spec PyProof.Rows L2
end TV
namespace TV
open PySem PySem.Spec PyProof.Rows L2
theorem se_callF {X : Cx} {G : GG} {W : WX} {x : Str} {p pos : Pos} {e : Expr} {es : List Expr} {os : List Opd} {id : String} {r : List V → Hp → VK → Prop} {f : List D → Option D} (hc : CallR X (.builtin id) r) (hv : VN G os.length r f) (hg : Gl X x) (hm : X.mg x = some (.builtin id)) (ha : SOs X G W (e :: es) os) (hdb : (x == ("__debug__" : Str)) = false := by decide)
    (he : starEach (e :: es) X.env = (false, eval e X.env) :: starEach es X.env := by rfl) (hpl : (backTo pos (starEach es X.env)).any (·.1) = false := by rfl) : SE X G W (.Call (.Name x p) (e :: es) [] pos) (mOp os f) :=
  pe_wk (pe_callBfun hc hg hm ha hdb he hpl) fun σ H Q q => mOp_rd hv q
def rComb : List V → Hp → VK → Prop := fun vs H Q => ∃ a b : Int, vs = [V.int a, V.int b] ∧ 0 ≤ a ∧ 0 ≤ b ∧ a ≤ 1000 ∧ b ≤ 1000 ∧ Q (.int (PySem.W.mcComb a b)) H
theorem cr_comb {X : Cx} : CallR X (.builtin "math.comb") rComb := by
  rintro pins s σ H vs us Q I r ⟨a, b, rfl, ha, hb, ha2, hb2, q⟩
  cases r with
  | cons r1 r =>
    cases r with
    | cons r2 r =>
      cases r
      obtain ⟨t, rfl⟩ := r1
      obtain ⟨u, rfl⟩ := r2
      refine PySem.W.mc_comb ha hb (by omega) (.inl (by omega)) fun _ => ?_
      exact ⟨.int _, H, I.kept (h' := s.heap) (t' := s.toks + 1) fun _ _ e => e, ⟨_, rfl⟩, q⟩
def dComb : List D → Option D
  | [.int a, .int b] => if 0 ≤ a ∧ 0 ≤ b ∧ a ≤ 1000 ∧ b ≤ 1000 then some (.int (PySem.W.mcComb a b)) else none
  | _ => none
theorem vn_comb {G : GG} : VN G 2 rComb dComb := fun H vs ds z Q ln rs ef g => by
  unfold dComb at ef
  split at ef
  · rename_i a b
    split at ef
    · rename_i c
      cases ef
      cases rs with
      | cons r1 rs =>
        cases rs with
        | cons r2 rs =>
          cases rs
          obtain rfl := r1.intOf
          obtain rfl := r2.intOf
          exact ⟨a, b, rfl, c.1, c.2.1, c.2.2.1, c.2.2.2, g.val (.int _)⟩
    · cases ef
  · cases ef
theorem se_comb {X : Cx} {G : GG} {W : WX} {p pos : Pos} {a b : Expr} {oa ob : Opd} (hm : X.mg "comb" = some (.builtin "math.comb")) (ha : SO X G W a oa) (hb : SO X G W b ob) (hg : Gl X "comb" := by rfl) (he : starEach [a, b] X.env = (false, eval a X.env) :: starEach [b] X.env := by rfl) (hf : starEach [b] X.env = (false, eval b X.env) :: starEach [] X.env := by rfl) : SE X G W (.Call (.Name "comb" p) [a, b] [] pos) (mOp [oa, ob] dComb) :=
  se_callF cr_comb vn_comb hg hm (so_cons ha (so_cons hb so_nil hf) he) (by decide) he (by rw [hf]; rfl)
end TV
namespace SrtU
open PySem PySem.Spec PyProof.Rows L2
section
variable {P : Program} {w : World} {A : Around} {E : Value → Shared → Prop} {s : Shared}
end
end SrtU
namespace TV
open PySem PySem.Spec PyProof.Rows L2
def rSetL (K : PySem.W.Frag) (w : World) : List V → Hp → VK → Prop := fun vs H Q => ∃ (a : Addr) (ns : List Int), vs = [V.ref a] ∧ SqL K H a (ns.map V.int) ∧ ns.length ≤ 60 ∧
  ∀ (p : Addr) (c : Nat), c ≤ ns.length → H p = none → Q (.ref p) (upd H p (SetO w p (fun j => decide (j ∈ ns)) c))
end TV
namespace TV
open PySem PySem.Spec PyProof.Rows L2
section
variable {X : Cx} {G : GG} [NoSlot G] {W : WX}
end
section
variable {ρ : TV.Env} {vs : List Nat} {gt : D → TV.Env → R TV.Env} {t : MT} {e : ME} {i : Nat} {ds : List D}
end
section
variable {X : Cx} {G : GG} [NoSlot G] {W : WX} {a b : Expr} {oa ob : Opd} {pos : Pos}
end
end TV
namespace TV
open PySem PySem.Spec PyProof.Rows L2
section
variable {X : Cx} {G : GG} [NoSlot G] {W : WX} {a : Expr} {oa : Opd} {p pos : Pos}
end
section
variable {X : Cx} {G : GG} [NoSlot G] {W : WX}
end
section
variable {ρ : TV.Env} {L i j : Nat} {m n : ME} {d d2 : D}
end
end TV
namespace TV
open PySem PySem.Spec PyProof.Rows L2
instance {i j : Int} : Decidable (CMul i j) := inferInstanceAs (Decidable (_ ∨ _))
section
variable {X : Cx} {G : GG} [NoSlot G] {W : WX} {a b : Expr} {oa ob : Opd} {pos : Pos}
end
end TV
namespace TV
open PySem PySem.Spec PyProof.Rows L2
section
variable {X : Cx} {G : GG} [NoSlot G] {W : WX}
end
section
variable {X : Cx} {o e f : Expr} {apos cpos : Pos} {td ty tx : TE}
end
section
variable {X : Cx} {G : GG} [NoSlot G] {W : WX} {o e f : Expr} {oo oe of : Opd} {apos cpos pos p : Pos}
end
end TV
namespace TV
open PySem PySem.Spec PyProof.Rows L2
inductive FzC (P : Hp → Prop) : Hp → Prop
  | done {H : Hp} (h : P H) : FzC P H
  | step {H : Hp} {a : Addr} {vs : List V} (ha : H a = some (.lst vs)) (k : ∀ o, FzC P (upd H a (.frz o (.lst vs)))) : FzC P H
structure Tbl (G : GG) (ρ0 : TV.Env) (σ0 : L2.St) (H0 : Hp) (fi : Nat) (a : Addr) (as : List Addr) (tb : List (List D)) (ρ : TV.Env) (σ : L2.St) (H : Hp) : Prop where
  re : RE G ρ σ H
  fr : Fr ρ0 σ0 H0 ρ σ H
  slot : σ[fi]? = some (some (.ref a))
  out : H a = some (.lst (as.map V.ref))
  na : ¬ own ρ σ a
  nm : a ∉ as
  nd : as.Nodup
  len : as.length = tb.length
  inn : ∀ (k : Nat) (p : Addr) (ds : List D), as[k]? = some p → tb[k]? = some ds → ∃ vs, H p = some (.lst vs) ∧ RVs G H ds vs
  nin : ∀ p ∈ as, ¬ own ρ σ p
  oa : H0 a = none ∨ own ρ0 σ0 a
  oi : ∀ p ∈ as, H0 p = none ∨ own ρ0 σ0 p
section
variable {G : GG} [NoSlot G] {ρ0 ρ ρ' : TV.Env} {σ0 σ σ' : L2.St} {H0 H H' : Hp} {fi : Nat} {a : Addr} {as : List Addr} {tb : List (List D)}
theorem Tbl.get (t : Tbl G ρ0 σ0 H0 fi a as tb ρ σ H) {p : Addr} (hp : p ∈ as) : ∃ (k : Nat) (ds : List D) (vs : List V), as[k]? = some p ∧ tb[k]? = some ds ∧ H p = some (.lst vs) ∧ RVs G H ds vs := by
  obtain ⟨k, hk, e⟩ := List.getElem_of_mem hp
  have e1 : as[k]? = some p := by rw [List.getElem?_eq_getElem hk, e]
  have hk2 : k < tb.length := by rw [← t.len]; exact hk
  obtain ⟨vs, h1, h2⟩ := t.inn k p _ e1 (List.getElem?_eq_getElem hk2)
  exact ⟨k, _, vs, e1, List.getElem?_eq_getElem hk2, h1, h2⟩
theorem Tbl.stay (t : Tbl G ρ0 σ0 H0 fi a as tb ρ σ H) (r : RE G ρ' σ' H') (f : Fr ρ σ H ρ' σ' H') (e : σ'[fi]? = σ[fi]?) : Tbl G ρ0 σ0 H0 fi a as tb ρ' σ' H' where
  re := r
  fr := t.fr.trans f
  slot := by rw [e]; exact t.slot
  out := (f.ap t.out rfl t.na).1
  na := (f.ap t.out rfl t.na).2
  nm := t.nm
  nd := t.nd
  len := t.len
  inn := fun k p ds h1 h2 => by
    obtain ⟨vs, h3, h4⟩ := t.inn k p ds h1 h2
    exact ⟨vs, (f.ap h3 rfl (t.nin p (List.mem_of_getElem? h1))).1, h4.mono (f.fix t.re)⟩
  nin := fun p hp => by
    obtain ⟨k, ds, vs, _, _, h3, _⟩ := t.get hp
    exact (f.ap h3 rfl (t.nin p hp)).2
  oa := t.oa
  oi := t.oi
theorem Tbl.app (t : Tbl G ρ0 σ0 H0 fi a as tb ρ σ H) {p : Addr} (hp : H p = none) : Tbl G ρ0 σ0 H0 fi a (as ++ [p]) (tb ++ [[]]) ρ σ (upd (upd H p (.lst [])) a (.lst (as.map V.ref ++ [.ref p]))) := by
  have pa : p ≠ a := fun z => by
    subst z
    rw [t.out] at hp
    cases hp
  have sm : Same H (upd H p (.lst [])) := same_upd hp
  have ha1 : (upd H p (.lst [])) a = some (.lst (as.map V.ref)) := sm _ _ t.out
  have np : ¬ own ρ σ p := fun z => by
    obtain ⟨u, hu, _⟩ := t.re.there z
    rw [hp] at hu
    cases hu
  have pas : p ∉ as := fun z => by
    obtain ⟨k, ds, vs, _, _, h3, _⟩ := t.get z
    rw [hp] at h3
    cases h3
  have fx : Fix H (upd (upd H p (.lst [])) a (.lst (as.map V.ref ++ [.ref p]))) := (sfix sm).trans (fix_upd ha1 (.lst _))
  refine ⟨(t.re.same sm).other ha1 (.lst _) t.na, (t.fr.trans (Fr.same sm)).updD ha1 (.lst _) t.oa, t.slot, by rw [upd_same, List.map_append]; rfl, t.na, ?_, ?_, by rw [List.length_append, List.length_append, t.len]; rfl, ?_, ?_, t.oa, ?_⟩
  · intro z
    rcases List.mem_append.mp z with z | z
    · exact t.nm z
    · exact pa (List.mem_singleton.mp z).symm
  · rw [List.nodup_append]
    refine ⟨t.nd, by simp, fun x hx y hy e => ?_⟩
    rw [List.mem_singleton.mp hy] at e
    subst e
    exact pas hx
  · intro k q ds h1 h2
    have hl := t.len
    by_cases c : k < as.length
    · rw [List.getElem?_append_left c] at h1
      rw [List.getElem?_append_left (by omega)] at h2
      obtain ⟨vs, h3, h4⟩ := t.inn k q ds h1 h2
      refine ⟨vs, ?_, h4.mono fx⟩
      rw [upd_ne (fun z => t.nm (by rw [← z]; exact List.mem_of_getElem? h1)), upd_ne (fun z => pas (by rw [← z]; exact List.mem_of_getElem? h1))]
      exact h3
    · rw [List.getElem?_append_right (by omega)] at h1 h2
      have hk : k - as.length = 0 := by
        have := (List.getElem?_eq_some_iff.mp h1).1
        simp at this
        omega
      have hk2 : k - tb.length = 0 := by omega
      rw [hk] at h1
      rw [hk2] at h2
      cases h1
      cases h2
      exact ⟨[], by rw [upd_ne pa, upd_same], .nil⟩
  · intro q hq
    rcases List.mem_append.mp hq with hq | hq
    · exact t.nin q hq
    · rw [List.mem_singleton.mp hq]
      exact np
  · intro q hq
    rcases List.mem_append.mp hq with hq | hq
    · exact t.oi q hq
    · rw [List.mem_singleton.mp hq]
      by_cases z : own ρ0 σ0 p
      · exact .inr z
      · cases y : H0 p with
        | none => exact .inl rfl
        | some o =>
          obtain ⟨⟨_, this⟩, _⟩ := t.fr.stays y z
          rw [hp] at this
          cases this
theorem Tbl.put (t : Tbl G ρ0 σ0 H0 fi a as tb ρ σ H) {k : Nat} {p : Addr} {ds : List D} {vs : List V} {y : D} {v : V} (h1 : as[k]? = some p) (h2 : tb[k]? = some ds) (h3 : H p = some (.lst vs)) (hy : RV G H y v) :
    Tbl G ρ0 σ0 H0 fi a as (tb.set k (ds ++ [y])) ρ σ (upd H p (.lst (vs ++ [v]))) := by
  have hp := List.mem_of_getElem? h1
  have pa : p ≠ a := fun z => t.nm (by rw [← z]; exact hp)
  have fx : Fix H (upd H p (.lst (vs ++ [v]))) := fix_upd h3 (.lst _)
  refine ⟨t.re.other h3 (.lst _) (t.nin p hp), t.fr.updD h3 (.lst _) (t.oi p hp), t.slot, by rw [upd_ne pa.symm]; exact t.out, t.na, t.nm, t.nd, by rw [List.length_set]; exact t.len, ?_, t.nin, t.oa, t.oi⟩
  intro j q es e1 e2
  by_cases c : j = k
  · subst c
    rw [h1] at e1
    cases e1
    obtain ⟨ws, g1, g2⟩ := t.inn j p ds h1 h2
    rw [h3] at g1
    cases g1
    rw [List.getElem?_set_self (List.getElem?_eq_some_iff.mp h2).1] at e2
    cases e2
    exact ⟨_, upd_same, (g2.mono fx).app (.cons (hy.mono fx) .nil)⟩
  · rw [List.getElem?_set_ne (Ne.symm c)] at e2
    obtain ⟨ws, g1, g2⟩ := t.inn j q es e1 e2
    refine ⟨ws, ?_, g2.mono fx⟩
    rw [upd_ne (fun z => by
      subst z
      exact c ((List.getElem?_inj (List.getElem?_eq_some_iff.mp e1).1 t.nd).mp (e1.trans h1.symm)))]
    exact g1
end
section
variable {G : GG} [NoSlot G] {ρ0 ρ : TV.Env} {σ0 σ : L2.St} {H0 H : Hp} {fi di xi : Nat} {a : Addr} {as : List Addr} {tb : List (List D)}
end
section
variable {X : Cx} {G : GG} [NoSlot G] {W : WX}
end
section
variable {fi di xi : Nat} {m : ME} {b : MS} {ρ : TV.Env}
end
end TV
namespace TV
open PySem PySem.Spec PyProof.Rows L2
def Slf (G : GG) (a : Addr) (vs : List V) (ds : List D) : Env → L2.St → Hp → Prop := fun _ _ H => RVs G H ds vs ∧ FrL G.K H a vs
theorem Slf.stay {G : GG} [NoSlot G] {a : Addr} {vs : List V} {ds : List D} {ρ ρ' : Env} {σ σ' : L2.St} {H H' : Hp} (s : Slf G a vs ds ρ σ H) (re : RE G ρ σ H) (f : Fr ρ σ H ρ' σ' H') : Slf G a vs ds ρ' σ' H' := ⟨s.1.mono (f.fix re), (f.fix re).frl s.2⟩
theorem Slf.off {G : GG} [NoSlot G] {a b : Addr} {vs : List V} {ds : List D} {ρ : Env} {σ : L2.St} {H : Hp} {u o : HO} (s : Slf G a vs ds ρ σ H) (hu : H b = some u) (fu : MutO u) : Slf G a vs ds ρ σ (upd H b o) :=
  have fx := fix_upd (o := o) hu fu
  ⟨s.1.mono fx, fx.frl s.2⟩
end TV
namespace TV
open PySem PySem.Spec PyProof.Rows L2
def pairD (k : Key) (d : D) : D := .tup [keyD k, d]
def D.items : D → Option (List D)
  | .frd ks ds => some ((ks.zip ds).map fun p => pairD p.1 p.2)
  | _ => none
section
variable {X : Cx} {G : GG} [NoSlot G] {W : WX} {tg e : Expr} {m : ME} {apos cpos : Pos}
end
end TV
namespace TV
open PySem PySem.Spec PyProof.Rows L2 PySem.RFX
mutual
def toP : D → PyData
  | .bl b => .bool b
  | .int i => .int i
  | .str x => .str x
  | .tup ds => .tuple (toPs ds)
  | .frl ds => .list (toPs ds)
  | .lst ds => .list (toPs ds)
  | _ => .none
def toPs : List D → List PyData
  | [] => []
  | d :: ds => toP d :: toPs ds
end
mutual
def wt : D → Option Nat
  | .non => some 10
  | .bl _ => some 10
  | .int i => if i.natAbs.log2 < 1920 then some 2000 else none
  | .str x => if x.cps.toList.all (fun c => decide (c < 16 ^ 8)) then some (10 * x.length + 2) else none
  | .tup ds => (wts ds).map (· + 10)
  | .frl ds => (wts ds).map (· + 10)
  | .lst ds => (wts ds).map (· + 10)
  | _ => none
def wts : List D → Option Nat
  | [] => some 0
  | d :: ds => match wt d, wts ds with
    | some m, some n => some (m + 2 + n)
    | _, _ => none
end
mutual
def dpt : D → Nat
  | .tup ds => dpts ds + 1
  | .frl ds => dpts ds + 1
  | .lst ds => dpts ds + 1
  | _ => 0
def dpts : List D → Nat
  | [] => 0
  | d :: ds => max (dpt d) (dpts ds)
end
theorem toPs_len : ∀ ds : List D, (toPs ds).length = ds.length
  | [] => by simp [toPs]
  | d :: ds => by simp [toPs, toPs_len ds]
theorem shownAll_len (xs : List PyData) : (PyData.shownAll xs).length = xs.length := PyData.shownAll_length xs
theorem pdepth_list (xs : List PyData) : (PyData.list xs).depth = PyData.depthAll xs + 1 := by simp only [PyData.depth]
theorem pdepth_tup (xs : List PyData) : (PyData.tuple xs).depth = PyData.depthAll xs + 1 := by simp only [PyData.depth]
theorem shown_list0 (xs : List PyData) : (PyData.list xs).shown = listText (PyData.shownAll xs) := by simp only [PyData.shown]
theorem shown_tup0 (xs : List PyData) : (PyData.tuple xs).shown = tupleText (PyData.shownAll xs) := by simp only [PyData.shown]
mutual
theorem wt_ok : ∀ {d : D} {n : Nat}, wt d = some n → (toP d).showable = true ∧ (toP d).shown.length ≤ n ∧ (toP d).depth ≤ dpt d ∧ (toP d).hasDict = false
  | .non, n, e => by
    simp only [wt, Option.some.injEq] at e
    subst e
    exact ⟨by simp [toP, PyData.showable], by simp only [toP, PyData.shown]; decide +kernel, by simp [toP, PyData.depth], by simp [toP, PyData.hasDict]⟩
  | .bl b, n, e => by
    simp only [wt, Option.some.injEq] at e
    subst e
    refine ⟨by simp [toP, PyData.showable], ?_, by simp [toP, PyData.depth], by simp [toP, PyData.hasDict]⟩
    simp only [toP, PyData.shown]
    cases b <;> decide +kernel
  | .int i, n, e => by
    simp only [wt] at e
    split at e
    · rename_i h
      cases e
      refine ⟨by simp [toP, PyData.showable, h], ?_, by simp [toP, PyData.depth], by simp [toP, PyData.hasDict]⟩
      simp only [toP, PyData.shown]
      have := int_text_length_le (a := i) (k := 1920) (by decide) h
      show (Str.ofString (toString i)).length ≤ 2000
      rw [PySem.ofString_length]
      omega
    · cases e
  | .str x, n, e => by
    simp only [wt] at e
    split at e
    · rename_i h
      cases e
      refine ⟨by simp [toP, PyData.showable], ?_, by simp [toP, PyData.depth], by simp [toP, PyData.hasDict]⟩
      simp only [toP, PyData.shown]
      exact StrLaws.reprText_len x fun c hc => by simpa using List.all_eq_true.mp h c hc
    · cases e
  | .tup ds, n, e => by
    simp only [wt, Option.map_eq_some_iff] at e
    obtain ⟨m, e, rfl⟩ := e
    obtain ⟨h1, h2, h3, h4⟩ := wts_ok e
    refine ⟨by simpa [toP, PyData.showable] using h1, ?_, ?_, by simpa [toP, PyData.hasDict] using h4⟩
    · simp only [toP]
      rw [shown_tup0]
      have := tupleText_len_le (PyData.shownAll (toPs ds))
      rw [shownAll_len] at this
      rw [toPs_len] at this h2
      omega
    · simp only [toP, dpt]
      rw [pdepth_tup]
      omega
  | .frl ds, n, e => by
    simp only [wt, Option.map_eq_some_iff] at e
    obtain ⟨m, e, rfl⟩ := e
    obtain ⟨h1, h2, h3, h4⟩ := wts_ok e
    refine ⟨by simpa [toP, PyData.showable] using h1, ?_, ?_, by simpa [toP, PyData.hasDict] using h4⟩
    · simp only [toP]
      rw [shown_list0]
      have := listText_len_le (PyData.shownAll (toPs ds))
      rw [shownAll_len] at this
      rw [toPs_len] at this h2
      omega
    · simp only [toP, dpt]
      rw [pdepth_list]
      omega
  | .lst ds, n, e => by
    simp only [wt, Option.map_eq_some_iff] at e
    obtain ⟨m, e, rfl⟩ := e
    obtain ⟨h1, h2, h3, h4⟩ := wts_ok e
    refine ⟨by simpa [toP, PyData.showable] using h1, ?_, ?_, by simpa [toP, PyData.hasDict] using h4⟩
    · simp only [toP]
      rw [shown_list0]
      have := listText_len_le (PyData.shownAll (toPs ds))
      rw [shownAll_len] at this
      rw [toPs_len] at this h2
      omega
    · simp only [toP, dpt]
      rw [pdepth_list]
      omega
  | .ins _ _, n, e => by simp [wt] at e
  | .frd _ _, n, e => by simp [wt] at e
  | .frt _ _, n, e => by simp [wt] at e
  | .dic _ _, n, e => by simp [wt] at e
  | .dct _ _, n, e => by simp [wt] at e
  | .dcn _ _, n, e => by simp [wt] at e
  | .dco _ _, n, e => by simp [wt] at e
  | .fnc _, n, e => by simp [wt] at e
theorem wts_ok : ∀ {ds : List D} {n : Nat}, wts ds = some n → PyData.showableAll (toPs ds) = true ∧ ((PyData.shownAll (toPs ds)).map (·.length)).sum + 2 * (toPs ds).length ≤ n ∧ PyData.depthAll (toPs ds) ≤ dpts ds ∧ PyData.hasDictAll (toPs ds) = false
  | [], n, e => by
    simp only [wts, Option.some.injEq] at e
    subst e
    simp [toPs, PyData.showableAll, PyData.shownAll, PyData.depthAll, PyData.hasDictAll]
  | d :: ds, n, e => by
    unfold wts at e
    split at e
    · rename_i m k e1 e2
      cases e
      obtain ⟨a1, a2, a3, a4⟩ := wt_ok e1
      obtain ⟨b1, b2, b3, b4⟩ := wts_ok e2
      refine ⟨by simp [toPs, PyData.showableAll, a1, b1], ?_, ?_, by simp [toPs, PyData.hasDictAll, a4, b4]⟩
      · simp only [toPs, PyData.shownAll, List.map_cons, List.sum_cons, List.length_cons]
        omega
      · simp only [toPs, PyData.depthAll, dpts]
        omega
    · cases e
end
def shD (d : D) : Str := (toP d).shown
def dShow : List D → Option D
  | [d] => match wt d with
    | some n => if n ≤ 16000000 ∧ dpt d ≤ 50 then some (.str (shD d)) else none
    | none => none
  | _ => none
theorem dShow_eq {d : D} {n : Nat} (h : wt d = some n) (h1 : n ≤ 16000000) (h2 : dpt d ≤ 50) : dShow [d] = some (.str (shD d)) := by
  simp only [dShow, h, if_pos (And.intro h1 h2)]
section
variable {X : Cx} {G : GG} {pins : List (Addr × Obj)} {σ : L2.St} {H : Hp} {s : Shared}
mutual
theorem reads_rv (I : Inv X pins σ H s) (hk : G.K = X.K) : ∀ {d : D} {v : V} {u : Value}, RV G H d v → L2.RelV v u → (wt d).isSome = true → ∃ as, Reads s.heap u (toP d) as
  | _, _, u, .non, r, _ => by
    have e : u = .none := r
    subst e
    exact ⟨_, by simpa [toP] using Reads.none⟩
  | _, _, u, .bl b, r, _ => by
    have e : u = .bool b := r
    subst e
    exact ⟨_, by simpa [toP] using Reads.bool b⟩
  | _, _, u, .int i, r, _ => by
    obtain ⟨t, rfl⟩ := r
    exact ⟨_, by simpa [toP] using Reads.int i t⟩
  | _, _, u, .str x, r, _ => by
    obtain ⟨t, rfl⟩ := r
    exact ⟨_, by simpa [toP] using Reads.str x t⟩
  | .tup ds, _, u, .tup h q, r, w => by
    have e : u = .ref _ := r
    subst e
    rw [hk] at h
    obtain ⟨its, rv, ⟨o, ho, hc, n, hd⟩, _⟩ := I.tuple h.sqt
    obtain ⟨as, ra⟩ := reads_rvs I hk q rv (by simpa [wt] using w)
    exact ⟨_, by simpa [toP] using Reads.tuple ho hc hd (by simpa using ra)⟩
  | .frl ds, _, u, .frl h q, r, w => by
    have e : u = .ref _ := r
    subst e
    rw [hk] at h
    obtain ⟨its, rv, ⟨o, n, ho, hc, _, hd⟩, _⟩ := I.list h.sql
    obtain ⟨as, ra⟩ := reads_rvs I hk q rv (by simpa [wt] using w)
    exact ⟨_, by simpa [toP] using Reads.list ho hc hd (by simpa using ra)⟩
  | _, _, u, .ins h l q, r, w => by simp [wt] at w
  | _, _, u, .frd h l q, r, w => by simp [wt] at w
  | _, _, u, .frt h e t q, r, w => by simp [wt] at w
  | _, _, u, .fnc c, r, w => by simp [wt] at w
theorem reads_rvs (I : Inv X pins σ H s) (hk : G.K = X.K) : ∀ {ds : List D} {vs : List V} {us : List Value}, RVs G H ds vs → Vals vs us → (wts ds).isSome = true → ∃ as, ReadsAll s.heap us (toPs ds) as
  | _, _, _, .nil, .nil, _ => ⟨_, by simpa [toPs] using ReadsAll.nil⟩
  | d :: ds, _, _, .cons h q, .cons r rs, w => by
    have w1 : (wt d).isSome = true ∧ (wts ds).isSome = true := by
      unfold wts at w
      split at w
      · rename_i m k e1 e2
        simp [e1, e2]
      · cases w
    obtain ⟨a1, r1⟩ := reads_rv I hk h r w1.1
    obtain ⟨a2, r2⟩ := reads_rvs I hk q rs w1.2
    exact ⟨_, by simpa [toPs] using ReadsAll.cons r1 r2⟩
end
theorem reads_rs (I : Inv X pins σ H s) (hk : G.K = X.K) {d : D} {v : V} {u : Value} (h : RS G H d v) (r : L2.RelV v u) (w : (wt d).isSome = true) : ∃ as, Reads s.heap u (toP d) as := by
  by_cases o : d.own = true
  · cases d with
    | lst ds =>
      obtain ⟨a, vs, rfl, hs, q⟩ := h
      have e : u = .ref _ := r
      subst e
      obtain ⟨its, rv, ⟨o, n, ho, hc, _, hd⟩, _⟩ := I.list (show SqL X.K H _ _ from SqL.of hs)
      obtain ⟨as, ra⟩ := reads_rvs I hk q rv (by simpa [wt] using w)
      exact ⟨_, by simpa [toP] using Reads.list ho hc hd (by simpa using ra)⟩
    | dic _ _ => simp [wt] at w
    | dct _ _ => simp [wt] at w
    | dcn _ _ => simp [wt] at w
    | dco _ _ => simp [wt] at w
    | _ => cases o
  · exact reads_rv I hk (h.rv (by simpa using o)) r w
end
def rShow (G : GG) : List V → Hp → VK → Prop := fun xs H Q => ∃ (v : V) (d : D) (n : Nat), xs = [v] ∧ RS G H d v ∧ wt d = some n ∧ n ≤ 16000000 ∧ dpt d ≤ 50 ∧ Q (.str (shD d)) H
theorem call_show {X : Cx} {G : GG} (hk : G.K = X.K) (hg : X.A.guards = some []) (hu : X.A.units + 64 < cLine) : CallR X (.builtin "repr") (rShow G) := by
  rintro pins s σ H xs us Q I r ⟨v, d, n, rfl, rs, hw, hn, hd, q⟩
  cases r with
  | cons ru rn =>
    rename_i u us'
    cases rn
    obtain ⟨as, rd⟩ := reads_rs I hk rs ru (by rw [hw]; rfl)
    obtain ⟨s1, s2, s3, s4⟩ := wt_ok hw
    have fits : (toP d).shown.length ≤ sizeLine := Nat.le_trans s2 (Nat.le_trans hn (by decide))
    have hdx : (toP d).hasDict = true → sysModules ∉ as := fun z => by rw [s4] at z; cases z
    have key : ∀ h' (t tk : Tok), (∀ b o, s.heap.get? b = some o → h'.get? b = some o) → EP X pins σ Q (.str (toP d).shown t) { s with heap := h', toks := tk } := fun h' t tk hk' => ⟨.str (shD d), H, I.kept hk', ⟨t, rfl⟩, q⟩
    cases u with
    | ref a => exact repr_of_reads' rd s1 hdx hg (by omega) (fun _ _ e => e) (fun h' t tk z => key h' t tk z) fits
    | none =>
      have e : d = .non := by
        cases d <;> first | rfl | (exfalso; simp [wt] at hw; done) | (exfalso; simp [toP] at rd; cases rd; done)
      subst e
      exact PySem.P.repr_of_none (by simpa [toP, PyData.shown] using key s.heap s.toks (s.toks + 1) fun _ _ e => e)
    | bool b =>
      have e : d = .bl b := by
        cases d <;> first | (exfalso; simp [wt] at hw; done) | (exfalso; simp [toP] at rd; cases rd; done) | (simp [toP] at rd; cases rd; rfl)
      subst e
      exact PySem.P.repr_of_bool (by simpa [toP, PyData.shown] using key s.heap s.toks (s.toks + 1) fun _ _ e => e)
    | int i t =>
      have e : d = .int i := by
        cases d <;> first | (exfalso; simp [wt] at hw; done) | (exfalso; simp [toP] at rd; cases rd; done) | (simp [toP] at rd; cases rd; rfl)
      subst e
      exact PySem.P.repr_of_int (by simpa [toP, PyData.showable] using s1) (by simpa [toP, PyData.shown] using key s.heap s.toks (s.toks + 1) fun _ _ e => e)
    | str x t =>
      have e : d = .str x := by
        cases d <;> first | (exfalso; simp [wt] at hw; done) | (exfalso; simp [toP] at rd; cases rd; done) | (simp [toP] at rd; cases rd; rfl)
      subst e
      exact PySem.P.repr_of_str (by simpa [toP, PyData.shown] using key s.heap s.toks (s.toks + 1) fun _ _ e => e) (by simpa [toP, PyData.shown] using fits)
    | _ =>
      exfalso
      cases d <;> first | (simp [wt] at hw; done) | (simp [toP] at rd; cases rd; done) | (cases rd; done)
theorem vn_show {G : GG} : VN G 1 (rShow G) dShow := VN.one fun H x d z Q h ef g => by
  cases hw : wt d with
  | none => simp [dShow, hw] at ef
  | some n =>
    simp only [dShow, hw] at ef
    split at ef
    · rename_i c
      cases ef
      exact ⟨x, d, n, rfl, h, hw, c.1, c.2, g.val (.str _)⟩
    · cases ef
section
variable {X : Cx} {G : GG} [NoSlot G] {W : WX} {a : Expr} {oa : Opd} {p pos : Pos}
theorem se_show (c : CT X G W) (hm : X.mg "repr" = none) (ha : SO X G W a oa) (hg : Gl X "repr" := by rfl) (he : starEach [a] X.env = (false, eval a X.env) :: starEach [] X.env := by rfl) : SE X G W (.Call (.Name "repr" p) [a] [] pos) (mOp [oa] dShow) :=
  se_callB (call_show c.k c.gd c.un) vn_show hg hm boot_repr (so_cons ha so_nil he) (by decide) (by decide) he
end
def dEqT : List D → Option D
  | [.str x, .str y] => some (.bl (decide (x = y)))
  | _ => none
def dNeT : List D → Option D
  | [.str x, .str y] => some (.bl (!decide (x = y)))
  | _ => none
theorem v2_eqT {G : GG} : V2 G rEq dEqT := by
  intro H x y d e z Q h1 h2 ef g
  unfold dEqT at ef
  split at ef
  · rename_i i j q
    cases q
    cases ef
    rw [h1.strOf, h2.strOf]
    exact ⟨rfl, by simpa using g.val (.bl _)⟩
  · cases ef
theorem v2_neT {G : GG} : V2 G rNe dNeT := by
  intro H x y d e z Q h1 h2 ef g
  unfold dNeT at ef
  split at ef
  · rename_i i j q
    cases q
    cases ef
    rw [h1.strOf, h2.strOf]
    exact ⟨rfl, by simpa using g.val (.bl _)⟩
  · cases ef
theorem eqT_self (x : Str) : dEqT [.str x, .str x] = some (.bl true) := by simp [dEqT]
theorem neT_self (x : Str) : dNeT [.str x, .str x] = some (.bl false) := by simp [dNeT]
section
variable {X : Cx} {G : GG} [NoSlot G] {W : WX} {a b : Expr} {oa ob : Opd} {pos : Pos}
theorem st_neT (ha : SO X G W a oa) (hb : SO X G W b ob) : ST X G W (.Compare a [.NotEq] [b] pos) (mB (mOp [oa, ob] dNeT)) := st_cmp op_ne v2_neT ha hb (nomark _)
theorem se_eqT (ha : SO X G W a oa) (hb : SO X G W b ob) : SE X G W (.Compare a [.Eq] [b] pos) (mOp [oa, ob] dEqT) := se_cmp op_eq v2_eqT ha hb (nomark _)
end
end TV
namespace TV
open PySem PySem.Spec PyProof.Rows L2 PySem.RFX
instance {i j : Int} : Decidable (CMulW i j) := inferInstanceAs (Decidable (_ < _))
def dMulW : List D → Option D
  | [.int i, .int j] => if CMulW i j then some (.int (i * j)) else none
  | _ => none
theorem v2_mulW {G : GG} : V2 G (rI CMulW fun i j => .int (i * j)) dMulW := by
  intro H x y d e z Q h1 h2 ef g
  unfold dMulW at ef
  split at ef
  · rename_i i j q
    cases q
    split at ef
    · rename_i c
      cases ef
      rw [h1.intOf, h2.intOf]
      exact ⟨i, j, rfl, rfl, c, g.val (.int _)⟩
    · cases ef
  · cases ef
section
variable {X : Cx} {G : GG} [NoSlot G] {W : WX} {a b : Expr} {oa ob : Opd} {pos : Pos}
theorem se_mulW (ha : SO X G W a oa) (hb : SO X G W b ob) : SE X G W (.BinOp a .Mult b pos) (mOp [oa, ob] dMulW) := se_bin op_mulW v2_mulW ha hb
end
theorem mulW_of (i j : Int) {a b : Nat} (ha : i.natAbs < 2 ^ a) (hb : j.natAbs < 2 ^ b) (h0 : 0 < a) (h1 : 0 < b) (h : a + b ≤ 1000000) : dMulW [.int i, .int j] = some (.int (i * j)) := by
  show (if CMulW i j then some (D.int (i * j)) else none) = _
  rw [if_pos (wide_mul ha hb h0 h1 h)]
end TV
namespace TV
open PySem PySem.Spec PyProof.Rows L2 PySem.RFX
def fInsert (xs : List D) : List D → Option (List D × D)
  | [.int i, y] => if y.own = false ∧ xs.length < sizeLine ∧ 0 ≤ i ∧ i < 2 ^ 63 then some (xs.take i.toNat ++ [y] ++ xs.drop i.toNat, .non) else none
  | _ => none
abbrev rInsert : V → List V → Hp → VK → Prop := fun x vs H Q => ∃ (l : Addr) (xs : List V) (i : Int) (y : V), x = .ref l ∧ vs = [.int i, y] ∧ H l = some (.lst xs) ∧ xs.length < sizeLine ∧ 0 ≤ i ∧ i < 2 ^ 63 ∧ Q .non (upd H l (.lst (xs.take i.toNat ++ [y] ++ xs.drop i.toNat)))
theorem mu_insert {G : GG} : MutR G 2 rInsert fInsert := by
  intro H a vs ws xs ds ys z Q ln ha rv rs ef q
  unfold fInsert at ef
  split at ef
  · rename_i i y
    split at ef
    · rename_i c
      cases ef
      cases rs with
      | cons h r =>
        cases r with
        | cons h2 r =>
          cases r
          rw [h.intOf]
          have hv := h2.rv c.1
          exact ⟨a, vs, i, _, rfl, rfl, ha, by rw [← rv.length]; exact c.2.1, c.2.2.1, c.2.2.2, q _ _ (((rv.take _).app (.cons hv .nil)).app (rv.drop _)) .non⟩
    · cases ef
  · cases ef
theorem upd_eq {H : Hp} {a : Addr} {o : HO} (h : H a = some o) : upd H a o = H := by
  funext b
  by_cases e : b = a
  · rw [e, upd_same, h]
  · rw [upd_ne e]
def fCntB (xs : List D) : List D → Option (List D × D)
  | [.bl k] => (dBools xs).map fun bs => (xs, .int (bs.count k : Nat))
  | _ => none
def fIxB (xs : List D) : List D → Option (List D × D)
  | [.bl k] => match dBools xs with
    | some bs => if k ∈ bs then some (xs, .int (bs.idxOf k : Nat)) else none
    | none => none
  | _ => none
theorem flat_bools (bs : List Bool) : (bs.map V.bl).all flatV = true := List.all_eq_true.mpr fun v hv => by
  obtain ⟨b, _, rfl⟩ := List.mem_map.mp hv
  rfl
def rCntB : V → List V → Hp → VK → Prop := fun x xs H Q => ∃ (a : Addr) (bs : List Bool) (k : Bool), x = V.ref a ∧ xs = [.bl k] ∧ H a = some (.lst (bs.map V.bl)) ∧ Q (.int (bs.count k : Nat)) H
theorem cnt_eq {k : Bool} : ∀ {bs : List Bool} {us : List Value}, Vals (bs.map V.bl) us → us.countP (eqU (.bl k)) = bs.count k
  | [], _, .nil => rfl
  | b :: bs, _, .cons r t => by
    rw [List.countP_cons, List.count_cons, cnt_eq t, eqU_of r rfl]
    rfl
theorem mt_cntB {X : Cx} : MtR X "list.count" rCntB := by
  intro pins s σ H x xs v us Q I rx rxs h
  obtain ⟨a, bs, k, rfl, rfl, ha, q⟩ := h
  cases rx
  obtain ⟨u, rfl, ru⟩ := rxs.one
  obtain ⟨its, rv, ⟨⟨cls, dd, data, sl⟩, n, ho, hc, hdn, hd⟩, hlen⟩ := I.list (show SqL X.K H a (bs.map V.bl) from SqL.of ha)
  simp only at hc hd
  subst hc hd
  refine call_meets PySem.F.slot_list_count ⟨_, ho, rfl⟩ PySem.F.entry_list_count (PySem.F.args_list_count_2 _ _)
    (SeqAt.list_countAt a its.toArray n dd sl u (eqU (.bl k))) ⟨ho, fun y hy => mem_eqAt ru rfl rv (flat_bools bs) y (by simpa using hy), ?_⟩
  refine ⟨.int (bs.count k : Nat), H, I.tok _, ⟨s.toks, ?_⟩, q⟩
  show Value.int ((its.toArray.toList.countP (eqU (.bl k)) : Nat) : Int) s.toks = Value.int ((bs.count k : Nat) : Int) s.toks
  rw [← cnt_eq rv]
theorem mu_cntB {G : GG} : MutR G 1 rCntB fCntB := by
  intro H a vs ws xs ds ys z Q ln ha rv rs ef q
  unfold fCntB at ef
  split at ef
  · rename_i k
    rw [Option.map_eq_some_iff] at ef
    obtain ⟨bs, e, e2⟩ := ef
    cases e2
    cases rs with
    | cons h r =>
      cases r
      rw [h.blOf]
      have ev := bools_ok rv e
      subst ev
      have q2 := q (.int (bs.count k : Nat)) _ rv (.int _)
      rw [upd_eq ha] at q2
      exact ⟨a, bs, k, rfl, rfl, ha, q2⟩
  · cases ef
theorem mu_ixB {K : PySem.W.Frag} {G : GG} : MutR G 1 (rIndex K) fIxB := by
  intro H a vs ws xs ds ys z Q ln ha rv rs ef q
  unfold fIxB at ef
  split at ef
  · rename_i k
    split at ef
    · rename_i bs e
      split at ef
      · rename_i hm
        cases ef
        cases rs with
        | cons h r =>
          cases r
          rw [h.blOf]
          have ev := bools_ok rv e
          subst ev
          have q2 := q (.int (bs.idxOf k : Nat)) _ rv (.int _)
          rw [upd_eq ha] at q2
          have hl : bs.idxOf k < bs.length := List.idxOf_lt_length_of_mem hm
          refine ⟨a, bs.map V.bl, .bl k, bs.idxOf k, .bl k, rfl, rfl, SqL.of ha, rfl, flat_bools bs, ?_, by simp [eqV], fun m z' hm' hz' => ?_, q2⟩
          · rw [List.getElem?_map, List.getElem?_eq_getElem hl, List.getElem_idxOf hl]
            rfl
          · rw [List.getElem?_map, Option.map_eq_some_iff] at hz'
            obtain ⟨b, hb, rfl⟩ := hz'
            show (b == k) = false
            have hml : m < bs.length := by omega
            rw [List.getElem?_eq_getElem hml] at hb
            cases hb
            have z := List.not_of_lt_findIdx (p := fun b => b == k) (xs := bs) (show m < bs.findIdx (fun b => b == k) from hm')
            simpa using z
      · cases ef
    · cases ef
  · cases ef
section
variable {X : Cx} {G : GG} {W : WX} {o e : Expr} {es : List Expr} {i : Nat} {os : List Opd} {apos cpos : Pos}
theorem se_insert {e2 : Expr} (c : CT X G W) (ho : PE X o (tVar i)) (ha : SOs X G W [e, e2] os) (hn : os.length = 2)
    (hbase : attributeBase o "insert" X.env (eval o X.env) = eval o X.env := by rfl)
    (hfew : ((backTo cpos (starEach [e, e2] X.env)).all (fun x => !x.1) && (backToKw cpos (keywordEach [] X.env)).all (fun x => x.1.isSome) && decide (([e, e2] : List Expr).length + ([] : List Keyword).length + (if ([] : List Keyword).isEmpty then 0 else 1) < 30)) = true := by rfl)
    (hline : (apos.endLine == cpos.line) = true := by rfl) (hs : starEach [e, e2] X.env = (false, eval e X.env) :: starEach [e2] X.env := by rfl) (hpl : (backTo cpos (starEach [e2] X.env)).any (·.1) = false := by rfl) :
    SE X G W (.Call (.Attribute o "insert" apos) [e, e2] [] cpos) (mMut i os fInsert) :=
  se_mut c PySem.F.slot_list_insert PySem.F.type_list_insert mt_insert (hn ▸ mu_insert) ho ha hbase hfew hline hs hpl
theorem se_cntB (c : CT X G W) (ho : PE X o (tVar i)) (ha : SOs X G W [e] os) (hn : os.length = 1)
    (hbase : attributeBase o "count" X.env (eval o X.env) = eval o X.env := by rfl)
    (hfew : ((backTo cpos (starEach [e] X.env)).all (fun x => !x.1) && (backToKw cpos (keywordEach [] X.env)).all (fun x => x.1.isSome) && decide (([e] : List Expr).length + ([] : List Keyword).length + (if ([] : List Keyword).isEmpty then 0 else 1) < 30)) = true := by rfl)
    (hline : (apos.endLine == cpos.line) = true := by rfl) (hs : starEach [e] X.env = (false, eval e X.env) :: starEach [] X.env := by rfl) (hpl : (backTo cpos (starEach [] X.env)).any (·.1) = false := by rfl) :
    SE X G W (.Call (.Attribute o "count" apos) [e] [] cpos) (mMut i os fCntB) :=
  se_mut c PySem.F.slot_list_count PySem.F.type_list_count mt_cntB (hn ▸ mu_cntB) ho ha hbase hfew hline hs hpl
theorem se_ixB (c : CT X G W) (ho : PE X o (tVar i)) (ha : SOs X G W [e] os) (hn : os.length = 1)
    (hbase : attributeBase o "index" X.env (eval o X.env) = eval o X.env := by rfl)
    (hfew : ((backTo cpos (starEach [e] X.env)).all (fun x => !x.1) && (backToKw cpos (keywordEach [] X.env)).all (fun x => x.1.isSome) && decide (([e] : List Expr).length + ([] : List Keyword).length + (if ([] : List Keyword).isEmpty then 0 else 1) < 30)) = true := by rfl)
    (hline : (apos.endLine == cpos.line) = true := by rfl) (hs : starEach [e] X.env = (false, eval e X.env) :: starEach [] X.env := by rfl) (hpl : (backTo cpos (starEach [] X.env)).any (·.1) = false := by rfl) :
    SE X G W (.Call (.Attribute o "index" apos) [e] [] cpos) (mMut i os fIxB) :=
  se_mut c PySem.F.slot_list_index PySem.F.type_list_index mt_index (hn ▸ mu_ixB) ho ha hbase hfew hline hs hpl
end
end TV
namespace TV
open PySem PySem.Spec PyProof.Rows L2 PySem.RFX
section
variable {X : Cx} {G : GG} {W : WX} {a b : Expr} {oa ob : Opd} {pos : Pos}
end
end TV
namespace TV
open PySem PySem.Spec PyProof.Rows L2 PySem.RFX
def fWord (n : Nat) (m : Nat → D → MS) (c : Nat) (w : D) : Option D := match m c w (List.replicate n none) with
  | .ok (.rt d, _) => if d.own = true then none else some d
  | _ => none
def mWord (o : Option D) : ME := match o with
  | some d => mC d
  | none => fun _ => .stuck
structure FnWd (P : Program) (w : World) (K : PySem.W.Frag) (mg : Str → Option Value) (base : Heap) (G : GG) (k : Nat) (x : Str) (kn : List Nat) (F : Nat → D → Option D) : Prop where
  ex : ∃ (f : Addr) (fd : FuncData) (y : Str), mg x = some (.ref f) ∧ PySem.W.keepIn K (.ref f) = true ∧ Binds K fd [y] [] ∧
    ∀ (A : Around) (outer : List PySem.Env) (s : Shared) (H : Hp) (ar : Args) (a : Addr) (oe : Obj) (c : Nat) (wd : D) (dd : Addr) (fs : List (Str × V)) (v : V) (Q : VK) (d : D), Room k A → Env0 P w K mg base (A.mark (some (.ref a))) outer s H → L2H.PinOk outer H s (a, oe) →
      Zc (.ref (G.cl c)) (some dd) oe → (∃ vs, oe.data = .fields vs) → G.pin H → H dd = some (.xd fs) → fs.lookup ("what" : Str) = some v → RV G H wd v → c ∈ kn → BindsTo s fd ar ([y].zip [.ref a]) → F c wd = some d →
      (∀ u H', RV G H' d u → (∀ b o, H b = some o → tabO o = false → H' b = some o) → (∀ b o, H b = some o → tabO o = true → ∃ o', H' b = some o' ∧ tabO o' = true) → (∀ P, TabN H P → TabN H' P) → Q u H') →
      codeAny (model P w) (A.mark (some (.ref a))) (.call (.ref f) ar) (CR CX0 outer P w H s Q E0) s
theorem own_empty {n : Nat} {σ : L2.St} {a : Addr} : ¬ own (List.replicate n none) σ a := fun ⟨i, d, e, _, _⟩ => by
  rw [List.getElem?_replicate] at e
  split at e <;> cases e
theorem wd_mk {P : Program} {w : World} {K : PySem.W.Frag} {mg : Str → Option Value} {base : Heap} {G : GG} [NoSlot G] {k : Nat} {x y : Str} {st : Stmt} {f : Addr} {fd : FuncData} {N : List Str} {B kn : List Nat} {m : Nat → D → MS}
    (F : Fun K x x st f fd) (hm : mg x = some (.ref f)) (S : FnScope N [y] (defScope st)) (hb : L2.Binds K fd [y] []) (hG : G.K = K)
    (hh : ∀ (cdv : Value) (A : Around) (outer : List PySem.Env) (s : Shared) (H : Hp), Room k (A.deeper (envOfC x (defScope st) s.heap.objs.size f cdv)) → CT (cxOf CX0 P w K mg base N x (defScope st) f cdv A outer s H E0).nox G WF →
      ∀ (a : Addr) (oe : Obj) (pn : List (Addr × Obj)) (c : Nat) (wd : D) (dd : Addr) (fs : List (Str × V)) (v : V), Zc (.ref (G.cl c)) (some dd) oe → (∃ vs, oe.data = .fields vs) → fs.lookup ("what" : Str) = some v → c ∈ kn →
        SSs ((cxOf CX0 P w K mg base N x (defScope st) f cdv A outer s H E0).nox.suite a ((a, oe) :: pn)) (GP G (some 0) a dd fs wd v) WF (defBody st) B (m c wd)) :
    FnWd P w K mg base G (k + 1) x kn (fWord N.length m) := by
  obtain ⟨oc, od, kV, doc, pm, an, cdv, ct, osl, rfl, lk, hc⟩ := F.ex
  refine ⟨f, _, y, hm, F.kp, hb, fun A outer s H ar a oe c wd dd fs v Q d hr e0 hpin hz hf hp h1 h2 h3 hk bnd hw hq => ?_⟩
  have r : Vals [V.ref a] [Value.ref a] := .cons rfl .nil
  have KX : K.In s.heap := e0.mod.kin.keeps fun b o e => (e0.bs b o e).1
  have lim : s.heap.NoLimit := e0.mod.nolimit.keeps fun b o e => (e0.bs b o e).1
  have hkind : ∀ z ∈ [y].zip [Value.ref a], (defScope st).names.lookup z.1 = some .local ∨ ((defScope st).names.lookup z.1 = some .cell ∧ ((cellsFrom (s.heap.objs.size + 1) (defScope st).names []).lookup z.1).isSome = true) := fun ⟨n, u⟩ hy => by
    rcases S.par n (List.of_mem_zip hy).1 with q | q
    · exact .inl q
    · exact .inr ⟨q, PySem.W.cellsFrom_some _ _ _ (.inl q)⟩
  refine codeAny_call_function (A := A.mark (some (.ref a))) hr.depth (KX _ _ lk) rfl S.co S.gen rfl (PySem.W.codeRec_of KX hc) (bnd _ _ _ _ ?_)
  refine wpAny_newFunctionEnv_cells S.kind hkind fun env he s1 xx => ?_
  subst he
  refine ⟨lim.keeps xx.toInCall.keep, codeAny_func ?_⟩
  have hrd : Room k (A.deeper (envOfC x (defScope st) s.heap.objs.size f cdv)) := hr.deeper _
  have ct := ct_body (P := P) (w := w) (mg := mg) (base := base) (qual := x) (f := f) (cd := cdv) (outer := outer) (s := s) (H := H) (E := E0) (G := G) hG S hrd
  have hbd := hh cdv A outer s H hrd ct a oe [] c wd dd fs v hz hf h2 hk
  have I : Inv (L2H.cxH CX0 P w K mg base N x (defScope st) f cdv (A.mark (some (.ref a))) outer s H E0 (a, oe)) [] (L2.start N [V.ref a]) H s1 := L2H.inv_startH S hpin e0 rfl r xx
  have hbd : PSs (L2H.cxH CX0 P w K mg base N x (defScope st) f cdv (A.mark (some (.ref a))) outer s H E0 (a, oe)).nox (defBody st) (rdS (GP G (some 0) a dd fs wd v) WF B (m c wd)) := hbd
  have hpl : 1 ≤ N.length := by have := congrArg List.length S.pre; rw [List.length_take] at this; simp at this; omega
  have re : RE (GP G (some 0) a dd fs wd v) (List.replicate N.length none) (L2.start N [V.ref a]) H := by
    refine ⟨?_, fun i d e => ?_, fun i j d e b e1 => ?_, ⟨hp, h1, h3⟩, fun i e => ?_⟩
    · unfold L2.start
      rw [List.length_append, List.length_map, List.length_replicate, List.length_replicate]
      show N.length = 1 + (N.length - 1)
      omega
    · rw [List.getElem?_replicate] at e
      split at e <;> cases e
    · rw [List.getElem?_replicate] at e1
      split at e1 <;> cases e1
    · cases e
      rfl
  refine wpAny_mono (hbd.nox.run [] s1 (L2.start N [V.ref a]) H { nx := fun _ H' => Q .non H', rt := Q } I ⟨_, re, ?_⟩) (fun fl s' hs => ?_) fun e s' hs => hs
  · unfold fWord at hw
    split at hw
    · rename_i d' ρ' em
      split at hw
      · cases hw
      rename_i ho
      cases hw
      rw [em]
      intro u σ' H' r' f' s' z
      have rv : RV (GP G (some 0) a dd fs wd v) H' d u := z.1.rv (by simpa using ho)
      exact hq u H' (RV.re (G := GP G (some 0) a dd fs wd v) (G' := G) rfl rfl rfl rv) (fun b o hb t => f'.ob b o hb t own_empty) f'.tb f'.tab
    · cases hw
  have fin : ∀ {σ' : L2.St} {H' : Hp} {v : V} {u : Value}, Inv (L2H.cxH CX0 P w K mg base N x (defScope st) f cdv (A.mark (some (.ref a))) outer s H E0 (a, oe)) [] σ' H' s' → RelV v u → Q v H' → CE outer P w H s Q u s' :=
    fun {σ' H' v u} J rv q => ⟨v, H', J.os, J.bare, J.base, J.hok, rv, q⟩
  cases fl with
  | ret u =>
    obtain ⟨v, σ', H', J, rv, q⟩ := hs
    exact fin J rv q
  | next =>
    obtain ⟨σ', H', J, q⟩ := hs
    exact fin (v := V.non) (u := Value.none) J rfl q
  | brk =>
    obtain ⟨_, _, _, q⟩ := hs
    exact False.elim q
  | cont =>
    obtain ⟨_, _, _, q⟩ := hs
    exact False.elim q
section
variable {X : Cx} {G : GG} [NoSlot G] {W : WX} {i c j k : Nat} {a dd : Addr} {fs : List (Str × V)} {w : D} {v : V} {oe : Obj} {pn : List (Addr × Obj)} {x y : Str} {p p1 pos : Pos} {kn : List Nat} {F : Nat → D → Option D}
theorem se_word (h : FnWd X.prog X.w X.K X.mg X.base G j x kn F) (hj : j ≤ k) (hr : Room k X.A) (hi : X.N[i]? = some y) (hv : PE (X.suite a ((a, oe) :: pn)) (.Name y p1) (tVar i)) (hz : Zc (.ref (G.cl c)) (some dd) oe) (hf : ∃ vs, oe.data = .fields vs) (hl : fs.lookup ("what" : Str) = some v) (hk : c ∈ kn) (hg : Gl X x := by rfl)
    (hdb : (x == ("__debug__" : Str)) = false := by decide) (he : starEach [.Name y p1] (X.suite a ((a, oe) :: pn)).env = (false, eval (.Name y p1) (X.suite a ((a, oe) :: pn)).env) :: starEach [] (X.suite a ((a, oe) :: pn)).env := by rfl) (hpl : (backTo pos (starEach [] (X.suite a ((a, oe) :: pn)).env)).any (·.1) = false := by rfl) :
    SE (X.suite a ((a, oe) :: pn)) (GP G (some i) a dd fs w v) W (.Call (.Name x p) [.Name y p1] [] pos) (mWord (F c w)) := by
  obtain ⟨f, fd, z, hm, hkp, hb, run⟩ := h.ex
  constructor
  intro pins s σ H Q I ⟨ρ, re, q⟩
  cases hF : F c w with
  | none => rw [hF] at q; exact q.elim
  | some d =>
  rw [hF] at q
  have hi' : σ[i]? = some (some (.ref a)) := re.spin i rfl
  have pin : G.pin H ∧ H dd = some (.xd fs) ∧ RV G H w v := re.pin
  refine wpAny_Call_Name_kw (ld_glob (X := X.suite a ((a, oe) :: pn)) I hg hm (PySem.W.callWith_K (h₀ := X.base) I.ok.mod.kin hkp (thn ((pa_cons hv pa_nil he).run pos pins s σ H (fun us H1 => us = [V.ref a] ∧ H1 = H) I ⟨.ref a, hi', rfl, rfl⟩) ?_) he hpl) hdb)
  rintro us s1 ⟨vs, H1, I1, r1, rfl, rfl⟩
  refine ⟨I1.kIn, ?_⟩
  obtain ⟨u1, rfl, ru⟩ : ∃ u1, us = [u1] ∧ RelV (.ref a) u1 := by
    cases r1 with
    | cons h t => cases t; exact ⟨_, rfl, h⟩
  cases (show u1 = Value.ref a from ru)
  have b := hb s1 [Value.ref a] I1.kIn rfl
  rw [List.append_nil] at b
  have P1 := I1.pin (a, oe) (List.mem_append_left _ List.mem_cons_self)
  have hpin : L2H.PinOk X.stack H1 s1 (a, oe) := ⟨P1.1, P1.2.1, fun hm => (List.mem_cons.mp (I1.stkSub a hm)).elim P1.2.2.1 P1.2.2.2.1, P1.2.2.2.2⟩
  have e0 : Env0 X.prog X.w X.K X.mg X.base (X.A.mark (some (.ref a))) X.stack s1 H1 := I1.env0
  refine wpAny_call (codeAny_mono (run X.A X.stack s1 H1 ⟨[Value.ref a], []⟩ a oe c w dd fs v Q d (hr.mono hj) e0 hpin hz hf pin.1 pin.2.1 hl pin.2.2 hk b hF fun u H1' rv ob tb tab => ?_) fun q s' z => ?_)
  · have fx : Fix H1 H1' := ⟨fun b o e x => ob b o e (fix_tab x), tab⟩
    have fr : Fr ρ σ H1 ρ σ H1' := ⟨fun b o e t _ => ob b o e t, fun _ _ _ n => n, tb, tab⟩
    have re' : RE (GP G (some i) a dd fs w v) ρ σ H1' := ⟨re.len, fun n d e => by
      obtain ⟨v, e1, q⟩ := re.val n d e
      exact ⟨v, e1, q.keep fx fun a o _ _ h m => ob a o h m.tab⟩, re.sep, ⟨G.pinOk _ _ fx pin.1, ob _ _ pin.2.1 rfl, pin.2.2.mono fx⟩, re.spin⟩
    exact q u H1' re' fr (Res.of_rv (RV.re (G := G) (G' := GP G (some i) a dd fs w v) rfl rfl rfl rv))
  · match q, z with
    | .ok (.ret _), z => exact I1.after z
    | .ok .next, z => exact z.elim
    | .ok .brk, z => exact z.elim
    | .ok .cont, z => exact z.elim
    | .error e, z => exact z.elim
end
end TV
namespace TV
open PySem
theorem nr {α : Type} {a b : α} (h : a = b) : a = b := h
section
variable {α β : Type} {N n i j : Nat} {A is vs ix : List Nat} {ρ τ : Env} {m n' : MS} {e u : ME} {t t' : MT} {os : List Opd} {f : List D → Option D} {d : D} {o : Opd}
theorem b_ok {a : α} {g : α → R β} : (R.ok a).bind g = g a := nr rfl
theorem b_stuck {g : α → R β} : (R.stuck : R α).bind g = .stuck := nr rfl
theorem a_def : mDef N n A m τ = fDef A n (m (padE N τ)) := nr rfl
theorem f_ok {p : Out × Env} : fDef A n (.ok p) = kBody A n p := nr rfl
theorem f_exc {c : Nat} {w : D} : fDef A n (.exc c w ρ) = .exc c w (outE A n ρ) := nr rfl
theorem k_rt : kBody A n (.rt d, ρ) = .ok (d, outE A n ρ) := nr rfl
theorem k_nx : kBody A n (.nx, ρ) = .ok (.non, outE A n ρ) := nr rfl
theorem a_do {k : D × Env → R (Out × Env)} : mDo e k ρ = (e ρ).bind k := nr rfl
theorem a_set : kSet i (d, ρ) = .ok (.nx, ρ.set i (some d)) := nr rfl
theorem a_set2 : kSet2 i j (d, ρ) = if d.own = true then .stuck else .ok (.nx, (ρ.set i (some d)).set j (some d)) := nr rfl
theorem a_drop : kDrop (d, ρ) = .ok (.nx, ρ) := nr rfl
theorem a_ret : kRet (d, ρ) = .ok (.rt d, ρ) := nr rfl
theorem a_unp : kUnp is (d, ρ) = (gT is d ρ).bind fun ρ => .ok (.nx, ρ) := nr rfl
theorem a_seq : mSeq m n' ρ = (m ρ).bind (kSeq n') := nr rfl
theorem k_seq : kSeq n' (.nx, ρ) = n' ρ := nr rfl
theorem k_seqr : kSeq n' (.rt d, ρ) = .ok (.rt d, ρ) := nr rfl
theorem k_seqb : kSeq n' (.bk, ρ) = .ok (.bk, ρ) := nr rfl
theorem k_seqc : kSeq n' (.ct, ρ) = .ok (.ct, ρ) := nr rfl
def kOp (os : List Opd) (f : List D → Option D) : List (Option D) × Env → R (D × Env) := fun p => match (rds os p.1 p.2).bind f with
  | some d => .ok (d, p.2)
  | none => .stuck
theorem a_op : mOp os f ρ = (ev os ρ).bind (kOp os f) := nr rfl
theorem k_op {xs : List (Option D)} : kOp os f (xs, ρ) = match (rds os xs ρ).bind f with
  | some d => .ok (d, ρ)
  | none => .stuck := nr rfl
theorem a_c : mC d ρ = .ok (d, ρ) := nr rfl
theorem a_var : mVar i ρ = match ρ[i]? with
  | some (some d) => .ok (d, if d.own then ρ.set i none else ρ)
  | _ => .stuck := nr rfl
theorem a_b : mB e ρ = (e ρ).bind toB := nr rfl
theorem k_b {b : Bool} : toB (.bl b, ρ) = .ok (b, ρ) := nr rfl
theorem a_then {k : Bool → Env → R α} : tThen t k ρ = (t ρ).bind fun p => k p.1 p.2 := nr rfl
theorem k_and1 : kAnd t true ρ = t ρ := nr rfl
theorem k_and0 : kAnd t false ρ = .ok (false, ρ) := nr rfl
theorem k_or1 : kOr t true ρ = .ok (true, ρ) := nr rfl
theorem k_or0 : kOr t false ρ = t ρ := nr rfl
theorem k_andV1 : kAndV e true ρ = e ρ := nr rfl
theorem k_andV0 : kAndV e false ρ = .ok (.bl false, ρ) := nr rfl
theorem k_orV1 : kOrV e true ρ = .ok (.bl true, ρ) := nr rfl
theorem k_orV0 : kOrV e false ρ = e ρ := nr rfl
theorem k_if1 : kIf e u true ρ = e ρ := nr rfl
theorem k_if0 : kIf e u false ρ = u ρ := nr rfl
theorem k_ifS1 : kIfS m n' true ρ = m ρ := nr rfl
theorem k_ifS0 : kIfS m n' false ρ = n' ρ := nr rfl
theorem k_ifT1 : kIfT t t' true ρ = t ρ := nr rfl
theorem k_ifT0 : kIfT t t' false ρ = t' ρ := nr rfl
theorem k_notV {b : Bool} : kNotV b ρ = .ok (.bl !b, ρ) := by cases b <;> rfl
theorem k_not {b : Bool} : kNot b ρ = .ok (!b, ρ) := by cases b <;> rfl
theorem a_yes : mYes ρ = .ok (true, ρ) := nr rfl
theorem a_no : mNo ρ = .ok (false, ρ) := nr rfl
theorem a_next : mNext ρ = .ok (.nx, ρ) := nr rfl
theorem a_never : mNever ρ = .stuck := nr rfl
theorem a_par : mPar i j e u ρ = (e ρ).bind (kPar2 j u i) := nr rfl
theorem k_par : kPar2 j u i (d, ρ) = (u ρ).bind fun q => .ok (.nx, (q.2.set i (some d)).set j (some q.1)) := nr rfl
theorem a_for {mi : MI} {g : D → Env → R Env} : mFor mi g m ρ = (mi ρ).bind (kFor g m) := nr rfl
theorem k_for {g : D → Env → R Env} {ds : List D} : kFor g m (ds, ρ) = forL g m ds ρ := nr rfl
theorem a_i1 {h : D → Option (List D)} : mI1 e h ρ = (e ρ).bind (kSeqI h) := nr rfl
theorem k_i1 {h : D → Option (List D)} : kSeqI h (d, ρ) = match h d with
  | some ds => .ok (ds, ρ)
  | none => .stuck := nr rfl
theorem a_io {h : List D → Option (List D)} : mIO os h ρ = (ev os ρ).bind (kOI os h) := nr rfl
theorem k_io {h : List D → Option (List D)} {xs : List (Option D)} : kOI os h (xs, ρ) = match (rds os xs ρ).bind h with
  | some ds => .ok (ds, ρ)
  | none => .stuck := nr rfl
theorem a_call {F : FV} : mCall os F ρ = (ev os ρ).bind (kCall os F) := nr rfl
theorem k_call {F : FV} {xs : List (Option D)} : kCall os F (xs, ρ) = match takeA os xs ρ with
  | some (ds, ρ) => match F (ds.map some) with
    | .ok (d, outs) => .ok (d, wbE os ds outs ρ)
    | .exc c w outs => .exc c w (wbE os ds outs ρ)
    | .stuck => .stuck
  | none => .stuck := nr rfl
theorem a_callP {F : FV} {dfl : List D} : mCallP os dfl ix F ρ = (ev os ρ).bind (kCallP os dfl ix F) := nr rfl
theorem k_callP {F : FV} {dfl : List D} {xs : List (Option D)} : kCallP os dfl ix F (xs, ρ) = match takeA os xs ρ with
  | some (ds, ρ) => match F (permL ix ((ds ++ dfl).map some)) with
    | .ok (d, _) => .ok (d, ρ)
    | .exc c w _ => .exc c w ρ
    | .stuck => .stuck
  | none => .stuck := nr rfl
theorem a_chain {p q : Int → Int → Bool} {oa ob oc : Opd} : mChain p q oa ob oc ρ = (ev [oa, ob] ρ).bind (kChain p q oa ob oc) := nr rfl
theorem k_chain {p q : Int → Int → Bool} {oa ob oc : Opd} {xs : List (Option D)} : kChain p q oa ob oc (xs, ρ) = match rds [oa, ob] xs ρ with
  | some [.int i, .int j] => if p i j = true then mOp [oc] (fun ds => dIntB q (.int j :: ds)) ρ else .ok (.bl false, ρ)
  | _ => .stuck := nr rfl
theorem a_mut {g : List D → List D → Option (List D × D)} : mMut i os g ρ = match ρ[i]? with
  | some (some (.lst _)) => (ev os ρ).bind (kMut i os g)
  | _ => .stuck := nr rfl
theorem k_mut {g : List D → List D → Option (List D × D)} {xs : List (Option D)} : kMut i os g (xs, ρ) = match ρ[i]?, rds os xs ρ with
  | some (some (.lst xs)), some ds => match g xs ds with
    | some (ys, z) => .ok (z, ρ.set i (some (.lst ys)))
    | none => .stuck
  | _, _ => .stuck := nr rfl
theorem a_sto {g : D → D → D → Option D} : mSto i e o g ρ = match ρ[i]? with
  | some (some _) => (e ρ).bind (kSto i o g)
  | _ => .stuck := nr rfl
theorem k_sto {g : D → D → D → Option D} : kSto i o g (d, ρ) = (ev [o] ρ).bind fun q => match q.2[i]?, rds [o] q.1 q.2 with
  | some (some x), some [k] => match g x k d with
    | some y => .ok (.nx, q.2.set i (some y))
    | none => .stuck
  | _, _ => .stuck := nr rfl
theorem a_lc {mi : MI} {g : D → Env → R Env} : mLc vs mi g t e ρ = (mi ρ).bind (kLc vs g t e) := nr rfl
theorem k_lc {g : D → Env → R Env} {ds : List D} : kLc vs g t e (ds, ρ) = lcL vs g t e ds (wipeE ρ vs) [] := nr rfl
theorem b_exc {c : Nat} {w : D} {g : α → R β} : (R.exc c w ρ : R α).bind g = .exc c w ρ := nr rfl
theorem a_raise {c : Nat} : mRaise c e ρ = (e ρ).bind (kRaise c) := nr rfl
theorem k_raise {c : Nat} : kRaise c (d, ρ) = if d.own = true then .stuck else .exc c d ρ := nr rfl
theorem a_par3 {l : Nat} {o : ME} : mPar3 i j l e u o ρ = (ev [.tmp e pAny, .tmp u pAny, .tmp o pAny] ρ).bind (kPar3 i j l) := nr rfl
theorem k_par3 {l : Nat} {d1 d2 d3 : D} : kPar3 i j l ([some d1, some d2, some d3], ρ) = .ok (.nx, ((ρ.set i (some d1)).set j (some d2)).set l (some d3)) := nr rfl
theorem a_try {sb : Nat → Nat → Bool} {kn : List Nat} {hs : List HdM} : mTry sb kn m hs ρ = kTry sb kn hs (m ρ) := nr rfl
theorem kt_ok {sb : Nat → Nat → Bool} {kn : List Nat} {hs : List HdM} {p : Out × Env} : kTry sb kn hs (.ok p) = .ok p := nr rfl
theorem kt_exc {sb : Nat → Nat → Bool} {kn : List Nat} {hs : List HdM} {c : Nat} {w : D} : kTry sb kn hs (.exc c w ρ) = if kn.contains c = true then hdl sb hs c w ρ else .stuck := nr rfl
theorem a_new : mDicNew ρ = .ok (.dic [] [], ρ) := nr rfl
theorem a_gN : gN i d ρ = .ok (ρ.set i (some d)) := nr rfl
theorem a_gT {ds : List D} : gT is (.tup ds) ρ = gNs is ds ρ := nr rfl
theorem d_lt {x y : Int} : dLt [.int x, .int y] = some (.bl (decide (x < y))) := nr rfl
theorem d_le {x y : Int} : dLe [.int x, .int y] = some (.bl (decide (x ≤ y))) := nr rfl
theorem d_gt {x y : Int} : dGt [.int x, .int y] = some (.bl (decide (y < x))) := nr rfl
theorem d_ge {x y : Int} : dGe [.int x, .int y] = some (.bl (decide (y ≤ x))) := nr rfl
theorem d_intB {p : Int → Int → Bool} {x y : Int} : dIntB p [.int x, .int y] = some (.bl (p x y)) := nr rfl
end
theorem rg1 : List.range 1 = [0] := nr rfl
theorem rg2 : List.range 2 = [0, 1] := nr rfl
theorem rg3 : List.range 3 = [0, 1, 2] := nr rfl
theorem rg4 : List.range 4 = [0, 1, 2, 3] := nr rfl
theorem rg5 : List.range 5 = [0, 1, 2, 3, 4] := nr rfl
theorem rg6 : List.range 6 = [0, 1, 2, 3, 4, 5] := nr rfl
theorem rg7 : List.range 7 = [0, 1, 2, 3, 4, 5, 6] := nr rfl
theorem rg8 : List.range 8 = [0, 1, 2, 3, 4, 5, 6, 7] := nr rfl
theorem own_int {i : Int} : (D.int i).own = false := nr rfl
theorem own_bl {b : Bool} : (D.bl b).own = false := nr rfl
theorem own_str {x : Str} : (D.str x).own = false := nr rfl
theorem own_non : D.non.own = false := nr rfl
theorem own_tup {ds : List D} : (D.tup ds).own = false := nr rfl
theorem own_ins {c : Nat} {ds : List D} : (D.ins c ds).own = false := nr rfl
theorem own_frl {ds : List D} : (D.frl ds).own = false := nr rfl
theorem own_lst {ds : List D} : (D.lst ds).own = true := nr rfl
theorem own_dic {ks : List L2.Key} {ds : List D} : (D.dic ks ds).own = true := nr rfl
end TV
namespace TV
open PySem
mutual
def D.nice : Nat → D → Bool
  | _, .non => true
  | _, .bl _ => true
  | _, .int _ => true
  | _, .str x => (PyData.str x).canLay0
  | n + 1, .tup xs => D.nices n xs
  | n + 1, .lst xs => D.nices n xs
  | n + 1, .frl xs => D.nices n xs
  | _, _ => false
def D.nices : Nat → List D → Bool
  | _, [] => true
  | n, x :: xs => D.nice n x && D.nices n xs
end
mutual
theorem nice_pd : ∀ {n : Nat} {d : D}, D.nice n d = true → ∃ p, d.pd = some p ∧ p.canLay0 = true ∧ p.depth ≤ n ∧ PyData.eqv p p = true
  | _, .non, _ => ⟨.none, rfl, rfl, Nat.zero_le _, rfl⟩
  | _, .bl b, _ => ⟨.bool b, rfl, rfl, Nat.zero_le _, by simp [PyData.eqv]⟩
  | _, .int i, _ => ⟨.int i, rfl, rfl, Nat.zero_le _, by simp [PyData.eqv]⟩
  | n, .str x, h => ⟨.str x, rfl, by cases n <;> exact h, Nat.zero_le _, by simp [PyData.eqv]⟩
  | n + 1, .tup xs, h => by
    obtain ⟨ps, h1, h2, h3, h4⟩ := nices_pd (n := n) (ds := xs) h
    exact ⟨.tuple ps, by simp [D.pd, h1], h2, Nat.succ_le_succ h3, by simpa [PyData.eqv] using h4⟩
  | n + 1, .lst xs, h => by
    obtain ⟨ps, h1, h2, h3, h4⟩ := nices_pd (n := n) (ds := xs) h
    exact ⟨.list ps, by simp [D.pd, h1], h2, Nat.succ_le_succ h3, by simpa [PyData.eqv] using h4⟩
  | n + 1, .frl xs, h => by
    obtain ⟨ps, h1, h2, h3, h4⟩ := nices_pd (n := n) (ds := xs) h
    exact ⟨.list ps, by simp [D.pd, h1], h2, Nat.succ_le_succ h3, by simpa [PyData.eqv] using h4⟩
  | 0, .tup _, h => by simp [D.nice] at h
  | 0, .lst _, h => by simp [D.nice] at h
  | 0, .frl _, h => by simp [D.nice] at h
  | n, .ins _ _, h => by cases n <;> simp [D.nice] at h
  | n, .dic _ _, h => by cases n <;> simp [D.nice] at h
  | n, .dct _ _, h => by cases n <;> simp [D.nice] at h
  | n, .dcn _ _, h => by cases n <;> simp [D.nice] at h
  | n, .dco _ _, h => by cases n <;> simp [D.nice] at h
  | n, .frd _ _, h => by cases n <;> simp [D.nice] at h
  | n, .frt _ _, h => by cases n <;> simp [D.nice] at h
theorem nices_pd : ∀ {n : Nat} {ds : List D}, D.nices n ds = true → ∃ ps, D.pds ds = some ps ∧ PyData.canLayAll0 ps = true ∧ PyData.depthAll ps ≤ n ∧ PyData.eqvAll ps ps = true
  | _, [], _ => ⟨[], rfl, rfl, Nat.zero_le _, rfl⟩
  | n, x :: xs, h => by
    have h : (D.nice n x && D.nices n xs) = true := h
    rw [Bool.and_eq_true] at h
    obtain ⟨p, a1, a2, a3, a4⟩ := nice_pd h.1
    obtain ⟨ps, b1, b2, b3, b4⟩ := nices_pd h.2
    refine ⟨p :: ps, by simp [D.pds, a1, b1], by simp [PyData.canLayAll0, a2, b2], ?_, by simp [PyData.eqvAll, a4, b4]⟩
    simp only [PyData.depthAll]
    omega
end
theorem eq_self' {n : Nat} {d : D} (hn : n ≤ 64) (h : D.nice n d = true) : dEqB d d = some true := by
  obtain ⟨p, a1, a2, a3, a4⟩ := nice_pd h
  have hs : SeqAt.shaped p = true := by
    unfold SeqAt.shaped
    rw [Bool.and_eq_true, decide_eq_true_eq]
    exact ⟨a2, by omega⟩
  simp [dEqB, a1, hs, a4]
theorem d_eqS {d : D} (h : D.nice 8 d = true) : dEq [d, d] = some (.bl true) := by
  show (dEqB d d).map D.bl = _
  rw [eq_self' (by decide) h]
  rfl
theorem d_neS {d : D} (h : D.nice 8 d = true) : dNe [d, d] = some (.bl false) := by
  show (dEqB d d).map (fun k => D.bl (!k)) = _
  rw [eq_self' (by decide) h]
  rfl
theorem d_neU {a b : D} {p q : PyData} (h1 : a.pd = some p) (h2 : b.pd = some q) (s1 : SeqAt.shaped p = true) (s2 : SeqAt.shaped q = true) (h : PyData.eqv p q = false) : dNe [a, b] = some (.bl true) ∧ dEq [a, b] = some (.bl false) := by
  have e : dEqB a b = some false := by simp [dEqB, h1, h2, s1, s2, h]
  constructor
  · show (dEqB a b).map (fun k => D.bl (!k)) = _
    rw [e]; rfl
  · show (dEqB a b).map D.bl = _
    rw [e]; rfl
end TV
namespace TV
open PySem
mutual
def nbP : PyData → Bool
  | .none => true
  | .int _ => true
  | .str _ => true
  | .list xs => nbPs xs
  | .tuple xs => nbPs xs
  | _ => false
def nbPs : List PyData → Bool
  | [] => true
  | x :: xs => nbP x && nbPs xs
end
mutual
theorem eqv_nb : ∀ {p q : PyData}, nbP p = true → nbP q = true → PyData.eqv p q = true → p = q
  | .none, q, _, h2, h => by cases q <;> first | rfl | (simp [PyData.eqv] at h; done)
  | .int a, .int b, _, _, h => by simp [PyData.eqv] at h; rw [h]
  | .int _, .bool _, _, h2, _ => by simp [nbP] at h2
  | .int _, .none, _, _, h => by simp [PyData.eqv] at h
  | .int _, .str _, _, _, h => by simp [PyData.eqv] at h
  | .int _, .list _, _, _, h => by simp [PyData.eqv] at h
  | .int _, .tuple _, _, _, h => by simp [PyData.eqv] at h
  | .int _, .dict _, _, _, h => by simp [PyData.eqv] at h
  | .str a, .str b, _, _, h => by simp [PyData.eqv] at h; rw [h]
  | .str _, .bool _, _, h2, _ => by simp [nbP] at h2
  | .str _, .none, _, _, h => by simp [PyData.eqv] at h
  | .str _, .int _, _, _, h => by simp [PyData.eqv] at h
  | .str _, .list _, _, _, h => by simp [PyData.eqv] at h
  | .str _, .tuple _, _, _, h => by simp [PyData.eqv] at h
  | .str _, .dict _, _, _, h => by simp [PyData.eqv] at h
  | .list xs, .list ys, h1, h2, h => by rw [eqvs_nb (ps := xs) (qs := ys) (by simpa [nbP] using h1) (by simpa [nbP] using h2) (by simpa [PyData.eqv] using h)]
  | .list _, .bool _, _, h2, _ => by simp [nbP] at h2
  | .list _, .none, _, _, h => by simp [PyData.eqv] at h
  | .list _, .int _, _, _, h => by simp [PyData.eqv] at h
  | .list _, .str _, _, _, h => by simp [PyData.eqv] at h
  | .list _, .tuple _, _, _, h => by simp [PyData.eqv] at h
  | .list _, .dict _, _, _, h => by simp [PyData.eqv] at h
  | .tuple xs, .tuple ys, h1, h2, h => by rw [eqvs_nb (ps := xs) (qs := ys) (by simpa [nbP] using h1) (by simpa [nbP] using h2) (by simpa [PyData.eqv] using h)]
  | .tuple _, .bool _, _, h2, _ => by simp [nbP] at h2
  | .tuple _, .none, _, _, h => by simp [PyData.eqv] at h
  | .tuple _, .int _, _, _, h => by simp [PyData.eqv] at h
  | .tuple _, .str _, _, _, h => by simp [PyData.eqv] at h
  | .tuple _, .list _, _, _, h => by simp [PyData.eqv] at h
  | .tuple _, .dict _, _, _, h => by simp [PyData.eqv] at h
  | .bool _, _, h1, _, _ => by simp [nbP] at h1
  | .dict _, _, h1, _, _ => by simp [nbP] at h1
theorem eqvs_nb : ∀ {ps qs : List PyData}, nbPs ps = true → nbPs qs = true → PyData.eqvAll ps qs = true → ps = qs
  | [], [], _, _, _ => rfl
  | [], _ :: _, _, _, h => by simp [PyData.eqvAll] at h
  | _ :: _, [], _, _, h => by simp [PyData.eqvAll] at h
  | p :: ps, q :: qs, h1, h2, h => by
    simp only [nbPs, PyData.eqvAll, Bool.and_eq_true] at h1 h2 h
    rw [eqv_nb h1.1 h2.1 h.1, eqvs_nb h1.2 h2.2 h.2]
end
mutual
theorem eqv_refl_nb : ∀ {p : PyData}, nbP p = true → PyData.eqv p p = true
  | .none, _ => rfl
  | .int a, _ => by simp [PyData.eqv]
  | .str a, _ => by simp [PyData.eqv]
  | .list xs, h => by simpa [PyData.eqv] using eqvs_refl_nb (ps := xs) (by simpa [nbP] using h)
  | .tuple xs, h => by simpa [PyData.eqv] using eqvs_refl_nb (ps := xs) (by simpa [nbP] using h)
  | .bool _, h => by simp [nbP] at h
  | .dict _, h => by simp [nbP] at h
theorem eqvs_refl_nb : ∀ {ps : List PyData}, nbPs ps = true → PyData.eqvAll ps ps = true
  | [], _ => rfl
  | p :: ps, h => by
    simp only [nbPs, Bool.and_eq_true] at h
    simp only [PyData.eqvAll, Bool.and_eq_true]
    exact ⟨eqv_refl_nb h.1, eqvs_refl_nb h.2⟩
end
mutual
def D.flat : Nat → D → Bool
  | _, .non => true
  | _, .int _ => true
  | _, .str x => (PyData.str x).canLay0
  | n + 1, .tup xs => D.flats n xs
  | n + 1, .lst xs => D.flats n xs
  | _, _ => false
def D.flats : Nat → List D → Bool
  | _, [] => true
  | n, x :: xs => D.flat n x && D.flats n xs
end
mutual
theorem flat_pd : ∀ {n : Nat} {d : D}, D.flat n d = true → ∃ p, d.pd = some p ∧ p.canLay0 = true ∧ p.depth ≤ n ∧ nbP p = true
  | _, .non, _ => ⟨.none, rfl, rfl, Nat.zero_le _, rfl⟩
  | _, .int i, _ => ⟨.int i, rfl, rfl, Nat.zero_le _, rfl⟩
  | n, .str x, h => ⟨.str x, rfl, by cases n <;> exact h, Nat.zero_le _, rfl⟩
  | n + 1, .tup xs, h => by
    obtain ⟨ps, h1, h2, h3, h4⟩ := flats_pd (n := n) (ds := xs) h
    exact ⟨.tuple ps, by simp [D.pd, h1], h2, Nat.succ_le_succ h3, by simpa [nbP] using h4⟩
  | n + 1, .lst xs, h => by
    obtain ⟨ps, h1, h2, h3, h4⟩ := flats_pd (n := n) (ds := xs) h
    exact ⟨.list ps, by simp [D.pd, h1], h2, Nat.succ_le_succ h3, by simpa [nbP] using h4⟩
  | 0, .tup _, h => by simp [D.flat] at h
  | 0, .lst _, h => by simp [D.flat] at h
  | n, .frl _, h => by cases n <;> simp [D.flat] at h
  | n, .frd _ _, h => by cases n <;> simp [D.flat] at h
  | n, .frt _ _, h => by cases n <;> simp [D.flat] at h
  | n, .bl _, h => by cases n <;> simp [D.flat] at h
  | n, .ins _ _, h => by cases n <;> simp [D.flat] at h
  | n, .dic _ _, h => by cases n <;> simp [D.flat] at h
  | n, .dct _ _, h => by cases n <;> simp [D.flat] at h
  | n, .dcn _ _, h => by cases n <;> simp [D.flat] at h
  | n, .dco _ _, h => by cases n <;> simp [D.flat] at h
theorem flats_pd : ∀ {n : Nat} {ds : List D}, D.flats n ds = true → ∃ ps, D.pds ds = some ps ∧ PyData.canLayAll0 ps = true ∧ PyData.depthAll ps ≤ n ∧ nbPs ps = true
  | _, [], _ => ⟨[], rfl, rfl, Nat.zero_le _, rfl⟩
  | n, x :: xs, h => by
    have h : (D.flat n x && D.flats n xs) = true := h
    rw [Bool.and_eq_true] at h
    obtain ⟨p, a1, a2, a3, a4⟩ := flat_pd h.1
    obtain ⟨ps, b1, b2, b3, b4⟩ := flats_pd h.2
    refine ⟨p :: ps, by simp [D.pds, a1, b1], by simp [PyData.canLayAll0, a2, b2], ?_, by simp [nbPs, a4, b4]⟩
    simp only [PyData.depthAll]
    omega
end
mutual
theorem pd_inj : ∀ {n m : Nat} {a b : D}, D.flat n a = true → D.flat m b = true → a.pd = b.pd → a = b
  | n, m, .non, b, h1, h2, e => by
    cases b with
    | non => rfl
    | tup ys => cases m <;> simp [D.flat] at h2; obtain ⟨ps, h, _⟩ := flats_pd h2; simp [D.pd, h] at e
    | lst ys => cases m <;> simp [D.flat] at h2; obtain ⟨ps, h, _⟩ := flats_pd h2; simp [D.pd, h] at e
    | int i => simp [D.pd] at e
    | str i => simp [D.pd] at e
    | _ => cases m <;> simp [D.flat] at h2
  | n, m, .int i, b, h1, h2, e => by
    cases b with
    | int j => simp [D.pd] at e; rw [e]
    | tup ys => cases m <;> simp [D.flat] at h2; obtain ⟨ps, h, _⟩ := flats_pd h2; simp [D.pd, h] at e
    | lst ys => cases m <;> simp [D.flat] at h2; obtain ⟨ps, h, _⟩ := flats_pd h2; simp [D.pd, h] at e
    | non => simp [D.pd] at e
    | str i => simp [D.pd] at e
    | _ => cases m <;> simp [D.flat] at h2
  | n, m, .str i, b, h1, h2, e => by
    cases b with
    | str j => simp [D.pd] at e; rw [e]
    | tup ys => cases m <;> simp [D.flat] at h2; obtain ⟨ps, h, _⟩ := flats_pd h2; simp [D.pd, h] at e
    | lst ys => cases m <;> simp [D.flat] at h2; obtain ⟨ps, h, _⟩ := flats_pd h2; simp [D.pd, h] at e
    | non => simp [D.pd] at e
    | int i => simp [D.pd] at e
    | _ => cases m <;> simp [D.flat] at h2
  | n + 1, m + 1, .tup xs, .tup ys, h1, h2, e => by
    have h1 : D.flats n xs = true := h1
    have h2 : D.flats m ys = true := h2
    obtain ⟨ps, p1, _⟩ := flats_pd h1
    obtain ⟨qs, q1, _⟩ := flats_pd h2
    simp only [D.pd, p1, q1, Option.map_some, Option.some.injEq, PyData.tuple.injEq] at e
    rw [pds_inj h1 h2 (by rw [p1, q1, e])]
  | n + 1, m + 1, .lst xs, .lst ys, h1, h2, e => by
    have h1 : D.flats n xs = true := h1
    have h2 : D.flats m ys = true := h2
    obtain ⟨ps, p1, _⟩ := flats_pd h1
    obtain ⟨qs, q1, _⟩ := flats_pd h2
    simp only [D.pd, p1, q1, Option.map_some, Option.some.injEq, PyData.list.injEq] at e
    rw [pds_inj h1 h2 (by rw [p1, q1, e])]
  | n + 1, m + 1, .tup xs, .lst ys, h1, h2, e => by
    obtain ⟨ps, p1, _⟩ := flats_pd (n := n) (ds := xs) h1
    obtain ⟨qs, q1, _⟩ := flats_pd (n := m) (ds := ys) h2
    simp [D.pd, p1, q1] at e
  | n + 1, m + 1, .lst xs, .tup ys, h1, h2, e => by
    obtain ⟨ps, p1, _⟩ := flats_pd (n := n) (ds := xs) h1
    obtain ⟨qs, q1, _⟩ := flats_pd (n := m) (ds := ys) h2
    simp [D.pd, p1, q1] at e
  | n + 1, m, .tup xs, .non, h1, h2, e => by
    obtain ⟨ps, p1, _⟩ := flats_pd (n := n) (ds := xs) h1
    simp [D.pd, p1] at e
  | n + 1, m, .tup xs, .int _, h1, h2, e => by
    obtain ⟨ps, p1, _⟩ := flats_pd (n := n) (ds := xs) h1
    simp [D.pd, p1] at e
  | n + 1, m, .tup xs, .str _, h1, h2, e => by
    obtain ⟨ps, p1, _⟩ := flats_pd (n := n) (ds := xs) h1
    simp [D.pd, p1] at e
  | n + 1, m, .lst xs, .non, h1, h2, e => by
    obtain ⟨ps, p1, _⟩ := flats_pd (n := n) (ds := xs) h1
    simp [D.pd, p1] at e
  | n + 1, m, .lst xs, .int _, h1, h2, e => by
    obtain ⟨ps, p1, _⟩ := flats_pd (n := n) (ds := xs) h1
    simp [D.pd, p1] at e
  | n + 1, m, .lst xs, .str _, h1, h2, e => by
    obtain ⟨ps, p1, _⟩ := flats_pd (n := n) (ds := xs) h1
    simp [D.pd, p1] at e
  | 0, _, .tup _, _, h1, _, _ => by simp [D.flat] at h1
  | 0, _, .lst _, _, h1, _, _ => by simp [D.flat] at h1
  | _, 0, _, .tup _, _, h2, _ => by simp [D.flat] at h2
  | _, 0, _, .lst _, _, h2, _ => by simp [D.flat] at h2
  | n, _, .bl _, _, h1, _, _ => by cases n <;> simp [D.flat] at h1
  | n, _, .ins _ _, _, h1, _, _ => by cases n <;> simp [D.flat] at h1
  | n, _, .frl _, _, h1, _, _ => by cases n <;> simp [D.flat] at h1
  | n, _, .frd _ _, _, h1, _, _ => by cases n <;> simp [D.flat] at h1
  | n, _, .frt _ _, _, h1, _, _ => by cases n <;> simp [D.flat] at h1
  | n, _, .dic _ _, _, h1, _, _ => by cases n <;> simp [D.flat] at h1
  | n, _, .dct _ _, _, h1, _, _ => by cases n <;> simp [D.flat] at h1
  | n, _, .dcn _ _, _, h1, _, _ => by cases n <;> simp [D.flat] at h1
  | n, _, .dco _ _, _, h1, _, _ => by cases n <;> simp [D.flat] at h1
  | _, n, _, .bl _, _, h1, _ => by cases n <;> simp [D.flat] at h1
  | _, n, _, .ins _ _, _, h1, _ => by cases n <;> simp [D.flat] at h1
  | _, n, _, .frl _, _, h1, _ => by cases n <;> simp [D.flat] at h1
  | _, n, _, .frd _ _, _, h1, _ => by cases n <;> simp [D.flat] at h1
  | _, n, _, .frt _ _, _, h1, _ => by cases n <;> simp [D.flat] at h1
  | _, n, _, .dic _ _, _, h1, _ => by cases n <;> simp [D.flat] at h1
  | _, n, _, .dct _ _, _, h1, _ => by cases n <;> simp [D.flat] at h1
  | _, n, _, .dcn _ _, _, h1, _ => by cases n <;> simp [D.flat] at h1
  | _, n, _, .dco _ _, _, h1, _ => by cases n <;> simp [D.flat] at h1
theorem pds_inj : ∀ {n m : Nat} {as bs : List D}, D.flats n as = true → D.flats m bs = true → D.pds as = D.pds bs → as = bs
  | n, m, [], [], _, _, _ => rfl
  | n, m, [], b :: bs, _, h2, e => by
    obtain ⟨qs, q1, _⟩ := flats_pd h2
    have h2 : (D.flat m b && D.flats m bs) = true := h2
    rw [Bool.and_eq_true] at h2
    obtain ⟨p, p1, _⟩ := flat_pd h2.1
    obtain ⟨ps, p2, _⟩ := flats_pd h2.2
    simp [D.pds, p1, p2] at e
  | n, m, a :: as, [], h1, _, e => by
    have h1 : (D.flat n a && D.flats n as) = true := h1
    rw [Bool.and_eq_true] at h1
    obtain ⟨p, p1, _⟩ := flat_pd h1.1
    obtain ⟨ps, p2, _⟩ := flats_pd h1.2
    simp [D.pds, p1, p2] at e
  | n, m, a :: as, b :: bs, h1, h2, e => by
    have h1 : (D.flat n a && D.flats n as) = true := h1
    have h2 : (D.flat m b && D.flats m bs) = true := h2
    rw [Bool.and_eq_true] at h1 h2
    obtain ⟨p, p1, _⟩ := flat_pd h1.1
    obtain ⟨ps, p2, _⟩ := flats_pd h1.2
    obtain ⟨q, q1, _⟩ := flat_pd h2.1
    obtain ⟨qs, q2, _⟩ := flats_pd h2.2
    simp only [D.pds, p1, p2, q1, q2, Option.some.injEq, List.cons.injEq] at e
    rw [pd_inj h1.1 h2.1 (by rw [p1, q1, e.1]), pds_inj h1.2 h2.2 (by rw [p2, q2, e.2])]
end
end TV
namespace K54
open PySem PySem.Spec PyProof.Rows L2 TV PySem.RFX
def top (i : Nat) : Stmt := PySem.Challenge.pw_turnedvalleys_k54_classes_counted_at_bot.main.body.getD i (.Pass ⟨0, 0, 0, 0⟩)
def nm : Nat → List Str := fun _ => []
def sb : Nat → Nat → Bool := fun c j => c == j || j == 0
abbrev ix_BadSize : Nat := 1
abbrev ix_BadEnds : Nat := 2
abbrev ix_BadRule : Nat := 3
def kn : List Nat := [1, 2, 3]
def js : List Nat := [0]
structure Txt (P : Program) (K : PySem.W.Frag) (G : GG) (mg : Str → Option Value) : Prop where
  n_enumerate : mg "enumerate" = none
  n_int : mg "int" = none
  n_isinstance : mg "isinstance" = none
  n_len : mg "len" = none
  n_list : mg "list" = none
  n_max : mg "max" = none
  n_range : mg "range" = none
  n_repr : mg "repr" = none
  n_sorted : mg "sorted" = none
  n_sum : mg "sum" = none
  n_tuple : mg "tuple" = none
  c_BOTH_WALLS : ∃ t, mg "BOTH_WALLS" = some (.int (3) t)
  c_LEAST_LENGTH : ∃ t, mg "LEAST_LENGTH" = some (.int (2) t)
  c_MOST_COUNTED : ∃ t, mg "MOST_COUNTED" = some (.int (60) t)
  c_MOST_STONES : ∃ t, mg "MOST_STONES" = some (.int (40) t)
  g_comb : mg "comb" = some (.builtin "math.comb")
  x_BadSize : FnEx P K mg G "BadSize" 1
  x_BadEnds : FnEx P K mg G "BadEnds" 2
  x_BadRule : FnEx P K mg G "BadRule" 3
  m_BadEnds : mg "BadEnds" = some (.ref (G.cl 2))
  m_BadRule : mg "BadRule" = some (.ref (G.cl 3))
  m_BadSize : mg "BadSize" = some (.ref (G.cl 1))
  m_Refused : mg "Refused" = some (.ref (G.cl 0))
  xall : ∀ c ∈ kn, ∃ x, FnEx P K mg G x c
  exm : ∀ c ∈ kn, ∀ j ∈ js, PySem.W.exmOne K (.ref (G.cl c)) (.ref (G.cl j)) = some (sb c j)
  xik : ∀ c ∈ kn, ExI K (G.cl c)
  xkk : ∀ c ∈ kn, ∀ j ∈ ([2, 3, 1] : List Nat), PySem.W.kitOne K (.ref (G.cl c)) (.ref (G.cl j)) = some (sb c j)
  xkv : ∀ c ∈ kn, PySem.W.kitOne K (.ref (G.cl c)) (.type "ValueError") = some true
section
variable {P : Program} {w : World} {K : PySem.W.Frag} {mg : Str → Option Value} {base : Heap} {cl : Nat → Addr} {tbs : List Addr}
abbrev s__law_pool : Stmt := top 21
def m__law_pool : MS := mSeq (mSet 2 (mC (.int 0))) (mSeq (mIfS (mB (mOp [.var 1 pAny, .tmp (mOp [.var 0 pAny] dLen) pAny] dLt)) (mSet 2 (mOp [.var 0 pAny, .var 1 pAny] dIx)) (mIfS (mB (mOp [.var 0 pAny] dTru)) (mSet 2 (mOp [.var 0 pAny, .tmp (mC (.int 0)) pAny] dIx)) (mNext))) (mSeq (mSet 3 (mOp [.tmp (mOp [.var 2 pAny] dInt) pAny, .tmp (mOp [.tmp (mOp [.tmp (mOp [.tmp (mC (.int 1)) pAny] dNeg) pAny, .var 2 pAny] dSub) pAny] dInt) pAny] dMax2)) (mSeq (mSet 4 (mOp [.tmp (mOp [.tmp (mOp [.tmp (mOp [.tmp (mOp [.tmp (mOp [.tmp (mOp [.tmp (mOp [.var 3 pAny] dInt) pAny, .tmp (mC (.int 2147483629)) pAny] dMod) pAny, .tmp (mOp [.tmp (mOp [.tmp (mC (.int 7919)) pAny, .var 1 pAny] dMulS) pAny, .var 1 pAny] dMulS) pAny] dAdd) pAny, .tmp (mOp [.tmp (mC (.int 31)) pAny, .var 1 pAny] dMulS) pAny] dAdd) pAny, .tmp (mC (.int 17)) pAny] dAdd) pAny, .tmp (mC (.int 48271)) pAny] dMulS) pAny] dInt) pAny, .tmp (mC (.int 2147483647)) pAny] dMod)) (mDo (mOp [.tmp (mOp [.var 3 pAny, .tmp (mOp [.tmp (mOp [.var 3 pAny, .tmp (mOp [.tmp (mC (.int 10)) pAny, .tmp (mC (.int 18)) pAny] dPow) pAny] dGe) pAny] dInt) pAny] dMulS) pAny, .var 4 pAny] dLst) kRet))))
def F__law_pool : FV := mDef 5 2 [2, 2, 2, 3, 4] m__law_pool
theorem sc__law_pool : FnScope ["_law_script", "_law_k", "_law_cell", "_law_big", "_law_mixed"] ["_law_script", "_law_k"] (defScope s__law_pool) := ⟨rfl, rfl, rfl, by decide +kernel, rfl, by decide +kernel, by decide +kernel⟩
theorem core__law_pool {f : Addr} {fd : FuncData} (T : Txt P K (GG.tb K cl nm tbs) mg) (Fn : Fun K "_law_pool" "_law_pool" s__law_pool f fd) : TV.FnOk P w K mg base (L2.CX P w) 1 f fd ["_law_script", "_law_k"] (spV (GG.tb K cl nm tbs) 2 F__law_pool) := by
  refine TV.okX Fn sc__law_pool (fun vs H Q E h => h.1) (fun cdv A outer s H vs Q E hr h => ?_)
  have c := ct_bodyX (P := P) (w := w) (mg := mg) (base := base) (qual := "_law_pool") (f := f) (cd := cdv) (outer := outer) (s := s) (H := H) (E := E) (G := (GG.tb K cl nm tbs)) rfl sc__law_pool hr
  exact body_ok (X := cxOf (L2.CX P w) P w K mg base ["_law_script", "_law_k", "_law_cell", "_law_big", "_law_mixed"] "_law_pool" (defScope s__law_pool) f cdv A outer s H E) (N := ["_law_script", "_law_k", "_law_cell", "_law_big", "_law_mixed"]) (A := [2, 2, 2, 3, 4]) (m := m__law_pool) (body := defBody s__law_pool) (sss_cons (ss_set c rfl (Or.inl rfl) (se_int))
    (sss_cons (ss_if (st_lt (so_var (pv 1)) (so_tmp (se_lenN c T.n_len (so_var (pv 0))))) (sss_one (ss_set c rfl (Or.inl rfl) (se_ix c (so_var (pv 0)) (so_var (pv 1))))) (sss_one (ss_if (st_truth c (so_var (pv 0))) (sss_one (ss_set c rfl (Or.inl rfl) (se_ix c (so_var (pv 0)) (so_tmp (se_int))))) (sss_nil))))
    (sss_cons (ss_set c rfl (Or.inl rfl) (se_max2 c T.n_max (so_tmp (se_intOf T.n_int (so_var (pv 2)))) (so_tmp (se_intOf T.n_int (so_tmp (se_sub (so_tmp (se_neg (so_tmp (se_int)))) (so_var (pv 2))))))))
    (sss_cons (ss_set c rfl (Or.inl rfl) (se_mod (so_tmp (se_intOf T.n_int (so_tmp (se_mulS (so_tmp (se_add c (so_tmp (se_add c (so_tmp (se_add c (so_tmp (se_mod (so_tmp (se_intOf T.n_int (so_var (pv 3)))) (so_tmp (se_int)))) (so_tmp (se_mulS (so_tmp (se_mulS (so_tmp (se_int)) (so_var (pv 1)))) (so_var (pv 1)))))) (so_tmp (se_mulS (so_tmp (se_int)) (so_var (pv 1)))))) (so_tmp (se_int)))) (so_tmp (se_int)))))) (so_tmp (se_int))))
    (sss_one (ss_ret (se_lst (so_cons (so_tmp (se_mulS (so_var (pv 3)) (so_tmp (se_intOf T.n_int (so_tmp (se_ge (so_var (pv 3)) (so_tmp (se_pow (so_tmp (se_int)) (so_tmp (se_int)))))))))) (so_cons (so_var (pv 4)) (so_nil)))))))))) h (by decide)
theorem ok__law_pool {f : Addr} {fd : FuncData} (T : Txt P K (GG.tb K cl nm tbs) mg) (Fn : Fun K "_law_pool" "_law_pool" s__law_pool f fd) (hm : mg "_law_pool" = some (.ref f)) : FnH P w K mg base (GG.tb K cl nm tbs) 1 "_law_pool" ["_law_script", "_law_k"] F__law_pool :=
  ⟨f, fd, core__law_pool T Fn, hm, Fn.kp, Fn.binds fun _ _ _ _ _ _ us hl => match us, hl with | [_, _], _ => rfl⟩
abbrev s__law_take : Stmt := top 22
def m__law_take : MS := mSeq (mIfS (mB (mOp [.tmp (mOp [.var 0 pAny, .tmp (mC (.int 0)) pAny] dIx) pAny, .tmp (mC (.int 0)) pAny] dGt)) (mSeq (mSet 2 (mOp [.tmp (mOp [.tmp (mOp [.var 0 pAny, .tmp (mC (.int 0)) pAny] dIx) pAny] dInt) pAny, .var 1 pAny] dMod)) (mSeq (mSto 0 (mOp [.tmp (mOp [.var 0 pAny, .tmp (mC (.int 0)) pAny] dIx) pAny, .var 1 pAny] dDiv) (.tmp (mC (.int 0)) pAny) fSetL) (mDo (mVar 2) kRet))) (mNext)) (mSeq (mSto 0 (mOp [.tmp (mOp [.tmp (mOp [.tmp (mOp [.tmp (mOp [.var 0 pAny, .tmp (mC (.int 1)) pAny] dIx) pAny, .tmp (mC (.int 39373)) pAny] dMulS) pAny, .tmp (mC (.int 7)) pAny] dAdd) pAny] dInt) pAny, .tmp (mC (.int 2147483647)) pAny] dMod) (.tmp (mC (.int 1)) pAny) fSetL) (mDo (mOp [.tmp (mOp [.tmp (mOp [.tmp (mOp [.tmp (mOp [.tmp (mOp [.tmp (mOp [.var 0 pAny, .tmp (mC (.int 1)) pAny] dIx) pAny, .tmp (mOp [.var 0 pAny, .tmp (mC (.int 1)) pAny] dIx) pAny] dMulS) pAny] dInt) pAny, .tmp (mC (.int 2147483629)) pAny] dMod) pAny, .tmp (mC (.int 32)) pAny] dDiv) pAny] dInt) pAny, .var 1 pAny] dMod) kRet))
def F__law_take : FV := mDef 3 2 [2] m__law_take
theorem sc__law_take : FnScope ["_law_source", "_law_top", "_law_drawn"] ["_law_source", "_law_top"] (defScope s__law_take) := ⟨rfl, rfl, rfl, by decide +kernel, rfl, by decide +kernel, by decide +kernel⟩
theorem core__law_take {f : Addr} {fd : FuncData} (T : Txt P K (GG.tb K cl nm tbs) mg) (Fn : Fun K "_law_take" "_law_take" s__law_take f fd) : TV.FnOk P w K mg base (L2.CX P w) 1 f fd ["_law_source", "_law_top"] (spV (GG.tb K cl nm tbs) 2 F__law_take) := by
  refine TV.okX Fn sc__law_take (fun vs H Q E h => h.1) (fun cdv A outer s H vs Q E hr h => ?_)
  have c := ct_bodyX (P := P) (w := w) (mg := mg) (base := base) (qual := "_law_take") (f := f) (cd := cdv) (outer := outer) (s := s) (H := H) (E := E) (G := (GG.tb K cl nm tbs)) rfl sc__law_take hr
  exact body_ok (X := cxOf (L2.CX P w) P w K mg base ["_law_source", "_law_top", "_law_drawn"] "_law_take" (defScope s__law_take) f cdv A outer s H E) (N := ["_law_source", "_law_top", "_law_drawn"]) (A := [2]) (m := m__law_take) (body := defBody s__law_take) (sss_cons (ss_if (st_gt (so_tmp (se_ix c (so_var (pv 0)) (so_tmp (se_int)))) (so_tmp (se_int))) (sss_cons (ss_set c rfl (Or.inl rfl) (se_mod (so_tmp (se_intOf T.n_int (so_tmp (se_ix c (so_var (pv 0)) (so_tmp (se_int)))))) (so_var (pv 1))))
    (sss_cons (ss_lput (pv 0) (so_tmp (se_int)) (se_div (so_tmp (se_ix c (so_var (pv 0)) (so_tmp (se_int)))) (so_var (pv 1))))
    (sss_one (ss_ret (se_var (pv 2)))))) (sss_nil))
    (sss_cons (ss_lput (pv 0) (so_tmp (se_int)) (se_mod (so_tmp (se_intOf T.n_int (so_tmp (se_add c (so_tmp (se_mulS (so_tmp (se_ix c (so_var (pv 0)) (so_tmp (se_int)))) (so_tmp (se_int)))) (so_tmp (se_int)))))) (so_tmp (se_int))))
    (sss_one (ss_ret (se_mod (so_tmp (se_intOf T.n_int (so_tmp (se_div (so_tmp (se_mod (so_tmp (se_intOf T.n_int (so_tmp (se_mulS (so_tmp (se_ix c (so_var (pv 0)) (so_tmp (se_int)))) (so_tmp (se_ix c (so_var (pv 0)) (so_tmp (se_int)))))))) (so_tmp (se_int)))) (so_tmp (se_int)))))) (so_var (pv 1))))))) h (by decide)
theorem ok__law_take {f : Addr} {fd : FuncData} (T : Txt P K (GG.tb K cl nm tbs) mg) (Fn : Fun K "_law_take" "_law_take" s__law_take f fd) (hm : mg "_law_take" = some (.ref f)) : FnH P w K mg base (GG.tb K cl nm tbs) 1 "_law_take" ["_law_source", "_law_top"] F__law_take :=
  ⟨f, fd, core__law_take T Fn, hm, Fn.kp, Fn.binds fun _ _ _ _ _ _ us hl => match us, hl with | [_, _], _ => rfl⟩
abbrev s__law_one : Stmt := top 23
def m__law_one : MS := mDo (mOp [.var 1 pAny, .tmp (mCall [.var 0 pAny, .tmp (mOp [.var 1 pAny] dLen) pAny] F__law_take) pAny] dIx) kRet
def F__law_one : FV := mDef 2 2 [] m__law_one
theorem sc__law_one : FnScope ["_law_source", "_law_things"] ["_law_source", "_law_things"] (defScope s__law_one) := ⟨rfl, rfl, rfl, by decide +kernel, rfl, by decide +kernel, by decide +kernel⟩
theorem core__law_one {f : Addr} {fd : FuncData} (T : Txt P K (GG.tb K cl nm tbs) mg) (Fn : Fun K "_law_one" "_law_one" s__law_one f fd) (h__law_take : FnH P w K mg base (GG.tb K cl nm tbs) 1 "_law_take" ["_law_source", "_law_top"] F__law_take) : TV.FnOk P w K mg base (L2.CX P w) 2 f fd ["_law_source", "_law_things"] (spV (GG.tb K cl nm tbs) 2 F__law_one) := by
  refine TV.okX Fn sc__law_one (fun vs H Q E h => h.1) (fun cdv A outer s H vs Q E hr h => ?_)
  have c := ct_bodyX (P := P) (w := w) (mg := mg) (base := base) (qual := "_law_one") (f := f) (cd := cdv) (outer := outer) (s := s) (H := H) (E := E) (G := (GG.tb K cl nm tbs)) rfl sc__law_one hr
  exact body_ok (X := cxOf (L2.CX P w) P w K mg base ["_law_source", "_law_things"] "_law_one" (defScope s__law_one) f cdv A outer s H E) (N := ["_law_source", "_law_things"]) (A := []) (m := m__law_one) (body := defBody s__law_one) (sss_one (ss_ret (se_ix c (so_var (pv 1)) (so_tmp (se_fn h__law_take rfl (by decide) c.tk hr (so_cons (so_var (pv 0)) (so_cons (so_tmp (se_lenN c T.n_len (so_var (pv 1)))) (so_nil)))))))) h (by decide)
theorem ok__law_one {f : Addr} {fd : FuncData} (T : Txt P K (GG.tb K cl nm tbs) mg) (Fn : Fun K "_law_one" "_law_one" s__law_one f fd) (hm : mg "_law_one" = some (.ref f)) (h__law_take : FnH P w K mg base (GG.tb K cl nm tbs) 1 "_law_take" ["_law_source", "_law_top"] F__law_take) : FnH P w K mg base (GG.tb K cl nm tbs) 2 "_law_one" ["_law_source", "_law_things"] F__law_one :=
  ⟨f, fd, core__law_one T Fn h__law_take, hm, Fn.kp, Fn.binds fun _ _ _ _ _ _ us hl => match us, hl with | [_, _], _ => rfl⟩
abbrev s_want_ends : Stmt := top 12
def m_want_ends : MS := mIfS (mNot (mB (mChain (fun i j => decide (i ≤ j)) (fun i j => decide (i ≤ j)) (.tmp (mC (.int 0)) pAny) (.var 0 pAny) (.tmp (mC (.int (3))) pAny)))) (mRaise 2 (mVar 0)) (mNext)
def F_want_ends : FV := mDef 1 1 [] m_want_ends
theorem sc_want_ends : FnScope ["ends"] ["ends"] (defScope s_want_ends) := ⟨rfl, rfl, rfl, by decide +kernel, rfl, by decide +kernel, by decide +kernel⟩
theorem core_want_ends {f : Addr} {fd : FuncData} (T : Txt P K (GG.tb K cl nm tbs) mg) (Fn : Fun K "want_ends" "want_ends" s_want_ends f fd) : TV.FnOk P w K mg base (L2.CX P w) 1 f fd ["ends"] (spV (GG.tb K cl nm tbs) 1 F_want_ends) := by
  refine TV.okX Fn sc_want_ends (fun vs H Q E h => h.1) (fun cdv A outer s H vs Q E hr h => ?_)
  have c := ct_bodyX (P := P) (w := w) (mg := mg) (base := base) (qual := "want_ends") (f := f) (cd := cdv) (outer := outer) (s := s) (H := H) (E := E) (G := (GG.tb K cl nm tbs)) rfl sc_want_ends hr
  exact body_ok (X := cxOf (L2.CX P w) P w K mg base ["ends"] "want_ends" (defScope s_want_ends) f cdv A outer s H E) (N := ["ends"]) (A := []) (m := m_want_ends) (body := defBody s_want_ends) (sss_one (ss_if (st_not (st_chain op_le op_le (so_tmp (se_int)) (so_var (pv 0)) (so_tmp (se_gi (by rfl) T.c_BOTH_WALLS)))) (sss_one (ss_raise c T.x_BadEnds hr (se_var (pv 0)))) (sss_nil))) h (by decide)
theorem ok_want_ends {f : Addr} {fd : FuncData} (T : Txt P K (GG.tb K cl nm tbs) mg) (Fn : Fun K "want_ends" "want_ends" s_want_ends f fd) (hm : mg "want_ends" = some (.ref f)) : FnH P w K mg base (GG.tb K cl nm tbs) 1 "want_ends" ["ends"] F_want_ends :=
  ⟨f, fd, core_want_ends T Fn, hm, Fn.kp, Fn.binds fun _ _ _ _ _ _ us hl => match us, hl with | [_], _ => rfl⟩
abbrev s_want_rule : Stmt := top 13
abbrev b_want_rule_1 : MS := mSeq (mIfS (mNot (mB (mChain (fun i j => decide (i < j)) (fun i j => decide (i ≤ j)) (.var 1 pAny) (.var 3 pAny) (.tmp (mC (.int (40))) pAny)))) (mRaise 3 (mVar 2)) (mNext)) (mSet 1 (mVar 3))
def m_want_rule : MS := mSeq (mSet 1 (mOp [.tmp (mC (.int (2))) pAny, .tmp (mC (.int 1)) pAny] dSub)) (mFor (mI1 (mIf (mB (mOp [.var 0 pAny, .tmp (mC .non) pAny] dIsN)) (mOp [] dTup) (mVar 0)) dEnum) (gT [2, 3]) b_want_rule_1)
def F_want_rule : FV := mDef 4 1 [1, 2, 3, 1] m_want_rule
theorem sc_want_rule : FnScope ["rule", "before", "at", "length"] ["rule"] (defScope s_want_rule) := ⟨rfl, rfl, rfl, by decide +kernel, rfl, by decide +kernel, by decide +kernel⟩
theorem core_want_rule {f : Addr} {fd : FuncData} (T : Txt P K (GG.tb K cl nm tbs) mg) (Fn : Fun K "want_rule" "want_rule" s_want_rule f fd) : TV.FnOk P w K mg base (L2.CX P w) 1 f fd ["rule"] (spV (GG.tb K cl nm tbs) 1 F_want_rule) := by
  refine TV.okX Fn sc_want_rule (fun vs H Q E h => h.1) (fun cdv A outer s H vs Q E hr h => ?_)
  have c := ct_bodyX (P := P) (w := w) (mg := mg) (base := base) (qual := "want_rule") (f := f) (cd := cdv) (outer := outer) (s := s) (H := H) (E := E) (G := (GG.tb K cl nm tbs)) rfl sc_want_rule hr
  exact body_ok (X := cxOf (L2.CX P w) P w K mg base ["rule", "before", "at", "length"] "want_rule" (defScope s_want_rule) f cdv A outer s H E) (N := ["rule", "before", "at", "length"]) (A := [1, 2, 3, 1]) (m := m_want_rule) (body := defBody s_want_rule) (sss_cons (ss_set c rfl (Or.inl rfl) (se_sub (so_tmp (se_gi (by rfl) T.c_LEAST_LENGTH)) (so_tmp (se_int))))
    (sss_one (ss_for c (si_enum c (by rfl) T.n_enumerate (se_ifExp (st_isN (so_var (pv 0)) (so_tmp (se_non))) (se_tup (so_nil)) (se_var (pv 0)))) (by exact pg_tup (c.calm rfl) (pgs_cons (pg_name c.nd rfl (Or.inl rfl)) (pgs_cons (pg_name c.nd rfl (Or.inl rfl)) (pgs_nil)))) gok_tup nex_tup (sss_cons (ss_if (st_not (st_chain op_lt op_le (so_var (pv 1)) (so_var (pv 3)) (so_tmp (se_gi (by rfl) T.c_MOST_STONES)))) (sss_one (ss_raise c T.x_BadRule hr (se_var (pv 2)))) (sss_nil))
    (sss_one (ss_set c rfl (Or.inl rfl) (se_var (pv 3)))))))) h (by decide)
theorem ok_want_rule {f : Addr} {fd : FuncData} (T : Txt P K (GG.tb K cl nm tbs) mg) (Fn : Fun K "want_rule" "want_rule" s_want_rule f fd) (hm : mg "want_rule" = some (.ref f)) : FnH P w K mg base (GG.tb K cl nm tbs) 1 "want_rule" ["rule"] F_want_rule :=
  ⟨f, fd, core_want_rule T Fn, hm, Fn.kp, Fn.binds fun _ _ _ _ _ _ us hl => match us, hl with | [_], _ => rfl⟩
abbrev s_lets : Stmt := top 14
def m_lets : MS := mDo (mOrV (mOp [.var 0 pAny, .tmp (mC .non) pAny] dIsN) (mOp [.var 1 pAny, .var 0 pAny] (dInA false))) kRet
def F_lets : FV := mDef 2 2 [] m_lets
theorem sc_lets : FnScope ["rule", "length"] ["rule", "length"] (defScope s_lets) := ⟨rfl, rfl, rfl, by decide +kernel, rfl, by decide +kernel, by decide +kernel⟩
theorem core_lets {f : Addr} {fd : FuncData} (T : Txt P K (GG.tb K cl nm tbs) mg) (Fn : Fun K "lets" "lets" s_lets f fd) : TV.FnOk P w K mg base (L2.CX P w) 1 f fd ["rule", "length"] (spV (GG.tb K cl nm tbs) 2 F_lets) := by
  refine TV.okX Fn sc_lets (fun vs H Q E h => h.1) (fun cdv A outer s H vs Q E hr h => ?_)
  have c := ct_bodyX (P := P) (w := w) (mg := mg) (base := base) (qual := "lets") (f := f) (cd := cdv) (outer := outer) (s := s) (H := H) (E := E) (G := (GG.tb K cl nm tbs)) rfl sc_lets hr
  exact body_ok (X := cxOf (L2.CX P w) P w K mg base ["rule", "length"] "lets" (defScope s_lets) f cdv A outer s H E) (N := ["rule", "length"]) (A := []) (m := m_lets) (body := defBody s_lets) (sss_one (ss_ret (se_or (se_isN (so_var (pv 0)) (so_tmp (se_non))) (se_one (se_inA c (so_var (pv 1)) (so_var (pv 0))))))) h (by decide)
theorem ok_lets {f : Addr} {fd : FuncData} (T : Txt P K (GG.tb K cl nm tbs) mg) (Fn : Fun K "lets" "lets" s_lets f fd) (hm : mg "lets" = some (.ref f)) : FnH P w K mg base (GG.tb K cl nm tbs) 1 "lets" ["rule", "length"] F_lets :=
  ⟨f, fd, core_lets T Fn, hm, Fn.kp, Fn.binds fun _ _ _ _ _ _ us hl => match us, hl with | [_, _], _ => rfl⟩
abbrev s_ways : Stmt := top 7
def m_ways : MS := mDo (mIf (mB (mChain (fun i j => decide (i ≤ j)) (fun i j => decide (i ≤ j)) (.tmp (mC (.int 0)) pAny) (.var 1 pAny) (.var 0 pAny))) (mOp [.var 0 pAny, .var 1 pAny] dComb) (mC (.int 0))) kRet
def F_ways : FV := mDef 2 2 [] m_ways
theorem sc_ways : FnScope ["n", "k"] ["n", "k"] (defScope s_ways) := ⟨rfl, rfl, rfl, by decide +kernel, rfl, by decide +kernel, by decide +kernel⟩
theorem core_ways {f : Addr} {fd : FuncData} (T : Txt P K (GG.tb K cl nm tbs) mg) (Fn : Fun K "ways" "ways" s_ways f fd) : TV.FnOk P w K mg base (L2.CX P w) 1 f fd ["n", "k"] (spV (GG.tb K cl nm tbs) 2 F_ways) := by
  refine TV.okX Fn sc_ways (fun vs H Q E h => h.1) (fun cdv A outer s H vs Q E hr h => ?_)
  have c := ct_bodyX (P := P) (w := w) (mg := mg) (base := base) (qual := "ways") (f := f) (cd := cdv) (outer := outer) (s := s) (H := H) (E := E) (G := (GG.tb K cl nm tbs)) rfl sc_ways hr
  exact body_ok (X := cxOf (L2.CX P w) P w K mg base ["n", "k"] "ways" (defScope s_ways) f cdv A outer s H E) (N := ["n", "k"]) (A := []) (m := m_ways) (body := defBody s_ways) (sss_one (ss_ret (se_ifExp (st_chain op_le op_le (so_tmp (se_int)) (so_var (pv 1)) (so_var (pv 0))) (se_comb T.g_comb (so_var (pv 0)) (so_var (pv 1))) (se_int)))) h (by decide)
theorem ok_ways {f : Addr} {fd : FuncData} (T : Txt P K (GG.tb K cl nm tbs) mg) (Fn : Fun K "ways" "ways" s_ways f fd) (hm : mg "ways" = some (.ref f)) : FnH P w K mg base (GG.tb K cl nm tbs) 1 "ways" ["n", "k"] F_ways :=
  ⟨f, fd, core_ways T Fn, hm, Fn.kp, Fn.binds fun _ _ _ _ _ _ us hl => match us, hl with | [_, _], _ => rfl⟩
abbrev s_inner_counts : Stmt := top 17
abbrev u_inner_counts_1 : ME := mOp [.tmp (mOp [.tmp (mCall [.tmp (mOp [.var 3 pAny, .tmp (mC (.int 1)) pAny] dSub) pAny, .tmp (mOp [.var 5 pAny, .tmp (mC (.int 1)) pAny] dSub) pAny] F_ways) pAny, .tmp (mOp [.var 2 pAny, .var 5 pAny] dIx) pAny] dMulW) pAny, .tmp (mOp [.var 2 pAny, .tmp (mOp [.var 3 pAny, .var 5 pAny] dSub) pAny] dIx) pAny] dMulW
abbrev b_inner_counts_2 : MS := mSeq (mSet 4 (mOp [.tmp (mLc [5] (mIO [.tmp (mC (.int 1)) pAny, .tmp (mOp [.var 3 pAny, .tmp (mC (.int 1)) pAny] dAdd) pAny] dR2) (gN 5) (mYes) (u_inner_counts_1)) pAny] dSum)) (mDo (mMut 2 [.tmp (mIf (mB (mOp [.tmp (mCall [.var 1 pAny, .tmp (mOp [.var 3 pAny, .tmp (mC (.int 1)) pAny] dAdd) pAny] F_lets) pAny] dTru)) (mVar 4) (mOp [.tmp (mC (.int 2)) pAny, .var 4 pAny] dMulW)) pAny] fAppend) kDrop)
def m_inner_counts : MS := mSeq (mSet 2 (mOp [.tmp (mC (.int 1)) pAny, .tmp (mC (.int 1)) pAny] dLst)) (mSeq (mFor (mIO [.tmp (mC (.int 1)) pAny, .var 0 pAny] dR2) (gN 3) b_inner_counts_2) (mDo (mOp [.var 2 pAny, .tmp (mOp [.var 0 pAny, .tmp (mC (.int 1)) pAny] dAdd) pInt] dSl01) kRet))
def F_inner_counts : FV := mDef 6 2 [2, 3, 4] m_inner_counts
theorem sc_inner_counts : FnScope ["most", "rule", "found", "k", "many", "j"] ["most", "rule"] (defScope s_inner_counts) := ⟨rfl, rfl, rfl, by decide +kernel, rfl, by decide +kernel, by decide +kernel⟩
theorem core_inner_counts {f : Addr} {fd : FuncData} (T : Txt P K (GG.tb K cl nm tbs) mg) (Fn : Fun K "inner_counts" "inner_counts" s_inner_counts f fd) (h_ways : FnH P w K mg base (GG.tb K cl nm tbs) 1 "ways" ["n", "k"] F_ways) (h_lets : FnH P w K mg base (GG.tb K cl nm tbs) 1 "lets" ["rule", "length"] F_lets) : TV.FnOk P w K mg base (L2.CX P w) 2 f fd ["most", "rule"] (spV (GG.tb K cl nm tbs) 2 F_inner_counts) := by
  refine TV.okX Fn sc_inner_counts (fun vs H Q E h => h.1) (fun cdv A outer s H vs Q E hr h => ?_)
  have c := ct_bodyX (P := P) (w := w) (mg := mg) (base := base) (qual := "inner_counts") (f := f) (cd := cdv) (outer := outer) (s := s) (H := H) (E := E) (G := (GG.tb K cl nm tbs)) rfl sc_inner_counts hr
  exact body_ok (X := cxOf (L2.CX P w) P w K mg base ["most", "rule", "found", "k", "many", "j"] "inner_counts" (defScope s_inner_counts) f cdv A outer s H E) (N := ["most", "rule", "found", "k", "many", "j"]) (A := [2, 3, 4]) (m := m_inner_counts) (body := defBody s_inner_counts) (sss_cons (ss_set c rfl (Or.inr rfl) (se_lst (so_cons (so_tmp (se_int)) (so_cons (so_tmp (se_int)) (so_nil)))))
    (sss_cons (ss_for c (si_range2 (by rfl) T.n_range (so_tmp (se_int)) (so_var (pv 0))) (pg_name c.nd rfl (Or.inr rfl)) gok_name nex_name (sss_cons (ss_set c rfl (Or.inl rfl) (se_sum c T.n_sum (so_tmp (se_lc (own := [("j", 5)]) c (si_range2 (by rfl) T.n_range (so_tmp (se_int)) (so_tmp (se_add c (so_var (pv 3)) (so_tmp (se_int))))) (show BlkOk ["most", "rule", "found", "k", "many", "j"] (defScope s_inner_counts) _ _ from ⟨rfl, by decide +kernel, by decide +kernel, by decide +kernel, by decide +kernel⟩) gok_name lenk_name (by decide) (fun _ _ _ _ _ => pg_name c.blk.nd rfl (Or.inl rfl)) (fun _ _ _ _ _ => sts_nil) (fun _ _ _ _ _ => se_mulW (so_tmp (se_mulW (so_tmp (se_fn h_ways rfl (by decide) c.blk.tk hr (so_cons (so_tmp (se_sub (so_var (pv 3)) (so_tmp (se_int)))) (so_cons (so_tmp (se_sub (so_var (pv 5)) (so_tmp (se_int)))) (so_nil))))) (so_tmp (se_ix c.blk (so_var (pv 2)) (so_var (pv 5)))))) (so_tmp (se_ix c.blk (so_var (pv 2)) (so_tmp (se_sub (so_var (pv 3)) (so_var (pv 5)))))))))))
    (sss_one (ss_expr (se_mut c PySem.F.slot_list_append PySem.F.type_list_append mt_append mu_append (pv 2) (so_cons (so_tmp (se_ifExp (st_truth c (so_tmp (se_fn h_lets rfl (by decide) c.tk hr (so_cons (so_var (pv 1)) (so_cons (so_tmp (se_add c (so_var (pv 3)) (so_tmp (se_int)))) (so_nil)))))) (se_var (pv 4)) (se_mulW (so_tmp (se_int)) (so_var (pv 4))))) (so_nil)))))))
    (sss_one (ss_ret (se_sl01 c (so_var (pv 2)) (so_tmpC pInt (se_add c (so_var (pv 0)) (so_tmp (se_int))))))))) h (by decide)
theorem ok_inner_counts {f : Addr} {fd : FuncData} (T : Txt P K (GG.tb K cl nm tbs) mg) (Fn : Fun K "inner_counts" "inner_counts" s_inner_counts f fd) (hm : mg "inner_counts" = some (.ref f)) (h_ways : FnH P w K mg base (GG.tb K cl nm tbs) 1 "ways" ["n", "k"] F_ways) (h_lets : FnH P w K mg base (GG.tb K cl nm tbs) 1 "lets" ["rule", "length"] F_lets) : FnH P w K mg base (GG.tb K cl nm tbs) 2 "inner_counts" ["most", "rule"] F_inner_counts :=
  ⟨f, fd, core_inner_counts T Fn h_ways h_lets, hm, Fn.kp, Fn.binds fun _ _ _ _ _ _ us hl => match us, hl with | [_, _], _ => rfl⟩
abbrev s_end_counts : Stmt := top 18
abbrev u_end_counts_1 : ME := mOp [.tmp (mOp [.tmp (mCall [.var 2 pAny, .var 3 pAny] F_ways) pAny, .tmp (mOp [.var 1 pAny, .var 3 pAny] dIx) pAny] dMulW) pAny, .tmp (mOp [.var 0 pAny, .tmp (mOp [.var 2 pAny, .var 3 pAny] dSub) pAny] dIx) pAny] dMulW
abbrev b_end_counts_2 : MS := mDo (mMut 1 [.tmp (mOp [.tmp (mLc [3] (mIO [.tmp (mOp [.var 2 pAny, .tmp (mC (.int 1)) pAny] dAdd) pAny] dR1) (gN 3) (mYes) (u_end_counts_1)) pAny] dSum) pAny] fAppend) kDrop
def m_end_counts : MS := mSeq (mSet 1 (mOp [.tmp (mC (.int 1)) pAny] dLst)) (mSeq (mFor (mIO [.tmp (mOp [.tmp (mOp [.var 0 pAny] dLen) pAny, .tmp (mC (.int 1)) pAny] dSub) pAny] dR1) (gN 2) b_end_counts_2) (mDo (mVar 1) kRet))
def F_end_counts : FV := mDef 4 1 [1, 2] m_end_counts
theorem sc_end_counts : FnScope ["inner", "found", "k", "j"] ["inner"] (defScope s_end_counts) := ⟨rfl, rfl, rfl, by decide +kernel, rfl, by decide +kernel, by decide +kernel⟩
theorem core_end_counts {f : Addr} {fd : FuncData} (T : Txt P K (GG.tb K cl nm tbs) mg) (Fn : Fun K "end_counts" "end_counts" s_end_counts f fd) (h_ways : FnH P w K mg base (GG.tb K cl nm tbs) 1 "ways" ["n", "k"] F_ways) : TV.FnOk P w K mg base (L2.CX P w) 2 f fd ["inner"] (spV (GG.tb K cl nm tbs) 1 F_end_counts) := by
  refine TV.okX Fn sc_end_counts (fun vs H Q E h => h.1) (fun cdv A outer s H vs Q E hr h => ?_)
  have c := ct_bodyX (P := P) (w := w) (mg := mg) (base := base) (qual := "end_counts") (f := f) (cd := cdv) (outer := outer) (s := s) (H := H) (E := E) (G := (GG.tb K cl nm tbs)) rfl sc_end_counts hr
  exact body_ok (X := cxOf (L2.CX P w) P w K mg base ["inner", "found", "k", "j"] "end_counts" (defScope s_end_counts) f cdv A outer s H E) (N := ["inner", "found", "k", "j"]) (A := [1, 2]) (m := m_end_counts) (body := defBody s_end_counts) (sss_cons (ss_set c rfl (Or.inr rfl) (se_lst (so_cons (so_tmp (se_int)) (so_nil))))
    (sss_cons (ss_for c (si_range1 (by rfl) T.n_range (so_tmp (se_sub (so_tmp (se_lenN c T.n_len (so_var (pv 0)))) (so_tmp (se_int))))) (pg_name c.nd rfl (Or.inr rfl)) gok_name nex_name (sss_one (ss_expr (se_mut c PySem.F.slot_list_append PySem.F.type_list_append mt_append mu_append (pv 1) (so_cons (so_tmp (se_sum c T.n_sum (so_tmp (se_lc (own := [("j", 3)]) c (si_range1 (by rfl) T.n_range (so_tmp (se_add c (so_var (pv 2)) (so_tmp (se_int))))) (show BlkOk ["inner", "found", "k", "j"] (defScope s_end_counts) _ _ from ⟨rfl, by decide +kernel, by decide +kernel, by decide +kernel, by decide +kernel⟩) gok_name lenk_name (by decide) (fun _ _ _ _ _ => pg_name c.blk.nd rfl (Or.inl rfl)) (fun _ _ _ _ _ => sts_nil) (fun _ _ _ _ _ => se_mulW (so_tmp (se_mulW (so_tmp (se_fn h_ways rfl (by decide) c.blk.tk hr (so_cons (so_var (pv 2)) (so_cons (so_var (pv 3)) (so_nil))))) (so_tmp (se_ix c.blk (so_var (pv 1)) (so_var (pv 3)))))) (so_tmp (se_ix c.blk (so_var (pv 0)) (so_tmp (se_sub (so_var (pv 2)) (so_var (pv 3))))))))))) (so_nil))))))
    (sss_one (ss_ret (se_var (pv 1)))))) h (by decide)
theorem ok_end_counts {f : Addr} {fd : FuncData} (T : Txt P K (GG.tb K cl nm tbs) mg) (Fn : Fun K "end_counts" "end_counts" s_end_counts f fd) (hm : mg "end_counts" = some (.ref f)) (h_ways : FnH P w K mg base (GG.tb K cl nm tbs) 1 "ways" ["n", "k"] F_ways) : FnH P w K mg base (GG.tb K cl nm tbs) 2 "end_counts" ["inner"] F_end_counts :=
  ⟨f, fd, core_end_counts T Fn h_ways, hm, Fn.kp, Fn.binds fun _ _ _ _ _ _ us hl => match us, hl with | [_], _ => rfl⟩
abbrev s_class_count : Stmt := top 19
abbrev u_class_count_1 : ME := mOp [.tmp (mOp [.tmp (mCall [.tmp (mOp [.var 0 pAny, .tmp (mC (.int 1)) pAny] dSub) pAny, .var 5 pAny] F_ways) pAny, .tmp (mOp [.var 4 pAny, .var 5 pAny] dIx) pAny] dMulW) pAny, .tmp (mOp [.var 4 pAny, .tmp (mOp [.tmp (mOp [.var 0 pAny, .tmp (mC (.int 1)) pAny] dSub) pAny, .var 5 pAny] dSub) pAny] dIx) pAny] dMulW
def m_class_count : MS := mSeq (mIfS (mNot (mB (mChain (fun i j => decide (i ≤ j)) (fun i j => decide (i ≤ j)) (.tmp (mC (.int 1)) pAny) (.var 0 pAny) (.tmp (mC (.int (60))) pAny)))) (mRaise 1 (mVar 0)) (mNext)) (mSeq (mDo (mCall [.var 1 pAny] F_want_ends) kDrop) (mSeq (mDo (mCall [.var 2 pAny] F_want_rule) kDrop) (mSeq (mSet 3 (mCall [.var 0 pAny, .var 2 pAny] F_inner_counts)) (mSeq (mIfS (mB (mOp [.var 1 pAny, .tmp (mC (.int 3)) pAny] dEq)) (mDo (mOp [.var 3 pAny, .var 0 pAny] dIx) kRet) (mNext)) (mSeq (mSet 4 (mCall [.var 3 pAny] F_end_counts)) (mSeq (mIfS (mB (mOp [.var 1 pAny, .tmp (mOp [.tmp (mC (.int 1)) pAny, .tmp (mC (.int 2)) pAny] dTup) pAny] (dInA false))) (mDo (mOp [.var 4 pAny, .var 0 pAny] dIx) kRet) (mNext)) (mDo (mOp [.tmp (mLc [5] (mIO [.var 0 pAny] dR1) (gN 5) (mYes) (u_class_count_1)) pAny] dSum) kRet)))))))
def F_class_count : FV := mDef 6 3 [3, 4] m_class_count
theorem sc_class_count : FnScope ["n", "ends", "rule", "inner", "one_end", "j"] ["n", "ends", "rule"] (defScope s_class_count) := ⟨rfl, rfl, rfl, by decide +kernel, rfl, by decide +kernel, by decide +kernel⟩
theorem core_class_count {f : Addr} {fd : FuncData} (T : Txt P K (GG.tb K cl nm tbs) mg) (Fn : FnD K "class_count" "class_count" s_class_count [] [("ends", V.int 0), ("rule", V.non)] f fd) (h_want_ends : FnH P w K mg base (GG.tb K cl nm tbs) 1 "want_ends" ["ends"] F_want_ends) (h_want_rule : FnH P w K mg base (GG.tb K cl nm tbs) 1 "want_rule" ["rule"] F_want_rule) (h_inner_counts : FnH P w K mg base (GG.tb K cl nm tbs) 2 "inner_counts" ["most", "rule"] F_inner_counts) (h_end_counts : FnH P w K mg base (GG.tb K cl nm tbs) 2 "end_counts" ["inner"] F_end_counts) (h_ways : FnH P w K mg base (GG.tb K cl nm tbs) 1 "ways" ["n", "k"] F_ways) : TV.FnOk P w K mg base (L2.CX P w) 3 f fd ["n", "ends", "rule"] (spV (GG.tb K cl nm tbs) 3 F_class_count) := by
  refine TV.okD Fn sc_class_count (fun vs H Q E h => h.1) (fun cdv A outer s H vs Q E hr h => ?_)
  have c := ct_bodyX (P := P) (w := w) (mg := mg) (base := base) (qual := "class_count") (f := f) (cd := cdv) (outer := outer) (s := s) (H := H) (E := E) (G := (GG.tb K cl nm tbs)) rfl sc_class_count hr
  exact body_ok (X := cxOf (L2.CX P w) P w K mg base ["n", "ends", "rule", "inner", "one_end", "j"] "class_count" (defScope s_class_count) f cdv A outer s H E) (N := ["n", "ends", "rule", "inner", "one_end", "j"]) (A := [3, 4]) (m := m_class_count) (body := defBody s_class_count) (sss_cons (ss_if (st_not (st_chain op_le op_le (so_tmp (se_int)) (so_var (pv 0)) (so_tmp (se_gi (by rfl) T.c_MOST_COUNTED)))) (sss_one (ss_raise c T.x_BadSize hr (se_var (pv 0)))) (sss_nil))
    (sss_cons (ss_expr (se_fn h_want_ends rfl (by decide) c.tk hr (so_cons (so_var (pv 1)) (so_nil))))
    (sss_cons (ss_expr (se_fn h_want_rule rfl (by decide) c.tk hr (so_cons (so_var (pv 2)) (so_nil))))
    (sss_cons (ss_set c rfl (Or.inl rfl) (se_fn h_inner_counts rfl (by decide) c.tk hr (so_cons (so_var (pv 0)) (so_cons (so_var (pv 2)) (so_nil)))))
    (sss_cons (ss_if (st_eq c (so_var (pv 1)) (so_tmp (se_int))) (sss_one (ss_ret (se_ix c (so_var (pv 3)) (so_var (pv 0))))) (sss_nil))
    (sss_cons (ss_set c rfl (Or.inr rfl) (se_fn h_end_counts rfl (by decide) c.tk hr (so_cons (so_var (pv 3)) (so_nil))))
    (sss_cons (ss_if (st_inA c (so_var (pv 1)) (so_tmp (se_tup (so_cons (so_tmp (se_int)) (so_cons (so_tmp (se_int)) (so_nil)))))) (sss_one (ss_ret (se_ix c (so_var (pv 4)) (so_var (pv 0))))) (sss_nil))
    (sss_one (ss_ret (se_sum c T.n_sum (so_tmp (se_lc (own := [("j", 5)]) c (si_range1 (by rfl) T.n_range (so_var (pv 0))) (show BlkOk ["n", "ends", "rule", "inner", "one_end", "j"] (defScope s_class_count) _ _ from ⟨rfl, by decide +kernel, by decide +kernel, by decide +kernel, by decide +kernel⟩) gok_name lenk_name (by decide) (fun _ _ _ _ _ => pg_name c.blk.nd rfl (Or.inl rfl)) (fun _ _ _ _ _ => sts_nil) (fun _ _ _ _ _ => se_mulW (so_tmp (se_mulW (so_tmp (se_fn h_ways rfl (by decide) c.blk.tk hr (so_cons (so_tmp (se_sub (so_var (pv 0)) (so_tmp (se_int)))) (so_cons (so_var (pv 5)) (so_nil))))) (so_tmp (se_ix c.blk (so_var (pv 4)) (so_var (pv 5)))))) (so_tmp (se_ix c.blk (so_var (pv 4)) (so_tmp (se_sub (so_tmp (se_sub (so_var (pv 0)) (so_tmp (se_int)))) (so_var (pv 5))))))))))))))))))) h (by decide)
abbrev s__law_lengths : Stmt := top 27
abbrev t__law_lengths_1 : MT := mB (mOp [.tmp (mCall [.var 0 pAny, .tmp (mC (.int 3)) pAny] F__law_take) pAny, .tmp (mC (.int 0)) pAny] dEq)
abbrev u__law_lengths_2 : ME := mVar 1
def m__law_lengths : MS := mDo (mOp [.tmp (mLc [1] (mIO [.tmp (mC (.int 2)) pAny, .tmp (mC (.int 41)) pAny] dR2) (gN 1) (t__law_lengths_1) (u__law_lengths_2)) pAny] dTupOf) kRet
def F__law_lengths : FV := mDef 2 1 [] m__law_lengths
theorem sc__law_lengths : FnScope ["_law_source", "_law_length"] ["_law_source"] (defScope s__law_lengths) := ⟨rfl, rfl, rfl, by decide +kernel, rfl, by decide +kernel, by decide +kernel⟩
theorem core__law_lengths {f : Addr} {fd : FuncData} (T : Txt P K (GG.tb K cl nm tbs) mg) (Fn : Fun K "_law_lengths" "_law_lengths" s__law_lengths f fd) (h__law_take : FnH P w K mg base (GG.tb K cl nm tbs) 1 "_law_take" ["_law_source", "_law_top"] F__law_take) : TV.FnOk P w K mg base (L2.CX P w) 2 f fd ["_law_source"] (spV (GG.tb K cl nm tbs) 1 F__law_lengths) := by
  refine TV.okX Fn sc__law_lengths (fun vs H Q E h => h.1) (fun cdv A outer s H vs Q E hr h => ?_)
  have c := ct_bodyX (P := P) (w := w) (mg := mg) (base := base) (qual := "_law_lengths") (f := f) (cd := cdv) (outer := outer) (s := s) (H := H) (E := E) (G := (GG.tb K cl nm tbs)) rfl sc__law_lengths hr
  exact body_ok (X := cxOf (L2.CX P w) P w K mg base ["_law_source", "_law_length"] "_law_lengths" (defScope s__law_lengths) f cdv A outer s H E) (N := ["_law_source", "_law_length"]) (A := []) (m := m__law_lengths) (body := defBody s__law_lengths) (sss_one (ss_ret (se_tupOf c T.n_tuple (so_tmp (se_lc (own := [("_law_length", 1)]) c (si_range2 (by rfl) T.n_range (so_tmp (se_int)) (so_tmp (se_int))) (show BlkOk ["_law_source", "_law_length"] (defScope s__law_lengths) _ _ from ⟨rfl, by decide +kernel, by decide +kernel, by decide +kernel, by decide +kernel⟩) gok_name lenk_name (by decide) (fun _ _ _ _ _ => pg_name c.blk.nd rfl (Or.inl rfl)) (fun _ _ _ _ _ => sts_one (st_eq c.blk (so_tmp (se_fn h__law_take rfl (by decide) c.blk.tk hr (so_cons (so_var (pv 0)) (so_cons (so_tmp (se_int)) (so_nil))))) (so_tmp (se_int)))) (fun _ _ _ _ _ => se_var (pv 1))))))) h (by decide)
theorem ok__law_lengths {f : Addr} {fd : FuncData} (T : Txt P K (GG.tb K cl nm tbs) mg) (Fn : Fun K "_law_lengths" "_law_lengths" s__law_lengths f fd) (hm : mg "_law_lengths" = some (.ref f)) (h__law_take : FnH P w K mg base (GG.tb K cl nm tbs) 1 "_law_take" ["_law_source", "_law_top"] F__law_take) : FnH P w K mg base (GG.tb K cl nm tbs) 2 "_law_lengths" ["_law_source"] F__law_lengths :=
  ⟨f, fd, core__law_lengths T Fn h__law_take, hm, Fn.kp, Fn.binds fun _ _ _ _ _ _ us hl => match us, hl with | [_], _ => rfl⟩
abbrev s__law_word : Stmt := top 24
def m__law_word : Nat → D → MS := fun ce we => mSeq (mSet 1 (mOp [.tmp (mC (.bl (sb ce 1))) pAny, .tmp (mC (.bl (sb ce 2))) pAny, .tmp (mC (.bl (sb ce 3))) pAny] dLst)) (mDo (mIf (mB (mOp [.tmp (mMut 1 [.tmp (mC (.bl true)) pAny] fCntB) pAny, .tmp (mC (.int 1)) pAny] dEq)) (mOp [.tmp (mOp [.tmp (mC (.str "size")) pAny, .tmp (mC (.str "ends")) pAny, .tmp (mC (.str "rule")) pAny] dLst) pAny, .tmp (mMut 1 [.tmp (mC (.bl true)) pAny] fIxB) pAny] dIx) (mC (.str "other"))) kRet)
def W__law_word : Nat → D → Option D := fWord 2 m__law_word
theorem sc__law_word : FnScope ["_law_e", "_law_kinds"] ["_law_e"] (defScope s__law_word) := ⟨rfl, rfl, rfl, by decide +kernel, rfl, by decide +kernel, by decide +kernel⟩
theorem wd__law_word {f : Addr} {fd : FuncData} (T : Txt P K (GG.tb K cl nm tbs) mg) (Fn : Fun K "_law_word" "_law_word" s__law_word f fd) (hm : mg "_law_word" = some (.ref f)) : FnWd P w K mg base (GG.tb K cl nm tbs) 1 "_law_word" kn W__law_word :=
  wd_mk (P := P) (w := w) (base := base) (G := (GG.tb K cl nm tbs)) (k := 0) (N := ["_law_e", "_law_kinds"]) (B := [1]) (kn := kn) (m := m__law_word) Fn hm sc__law_word (Fn.binds fun _ _ _ _ _ _ us hl => match us, hl with | [_], _ => rfl) rfl (fun cdv A outer s H hr c ea eo ep ce we ed ef ev hz hf hl hk => by (obtain ⟨_, xe⟩ := T.xall ce hk); (have c := CT.suite (oi := some 0) (a := ea) (dd := ed) (fs := ef) (w := we) (v := ev) (oe := eo) (pn := ep) c); exact sss_wide (B := [1]) (by decide) (sss_cons (ss_set c rfl (Or.inl rfl) (se_lst (so_cons (so_tmp (se_isX xe (T.xik ce hk) rfl T.n_isinstance (pv 0) (pe_glob (v := .ref _) rfl T.m_BadSize rfl) rel_ref (T.xkk ce hk 1 (by decide)) hz hf)) (so_cons (so_tmp (se_isX xe (T.xik ce hk) rfl T.n_isinstance (pv 0) (pe_glob (v := .ref _) rfl T.m_BadEnds rfl) rel_ref (T.xkk ce hk 2 (by decide)) hz hf)) (so_cons (so_tmp (se_isX xe (T.xik ce hk) rfl T.n_isinstance (pv 0) (pe_glob (v := .ref _) rfl T.m_BadRule rfl) rel_ref (T.xkk ce hk 3 (by decide)) hz hf)) (so_nil))))))     (sss_one (ss_ret (se_ifExp (st_eq c (so_tmp (se_cntB c (pv 1) (so_cons (so_tmp (se_bl)) (so_nil)) rfl)) (so_tmp (se_int))) (se_ix c (so_tmp (se_lst (so_cons (so_tmp (se_str)) (so_cons (so_tmp (se_str)) (so_cons (so_tmp (se_str)) (so_nil)))))) (so_tmp (se_ixB c (pv 1) (so_cons (so_tmp (se_bl)) (so_nil)) rfl))) (se_str))))))
abbrev s__law_told : Stmt := top 25
def m__law_told : MS := mNext
def l__law_told : List HdM := [(0, some 1, fun ce we => mDo (mOp [.tmp (mWord (W__law_word ce we)) pAny, .tmp (mC we) pAny] dTup) kRet)]
def FT__law_told : DO → FV := fTold 2 1 ([1] ++ []) sb kn true l__law_told m__law_told
theorem sc__law_told : FnScope ["_law_deed", "_law_e"] ["_law_deed"] (defScope s__law_told) := ⟨rfl, rfl, rfl, by decide +kernel, rfl, by decide +kernel, by decide +kernel⟩
theorem td__law_told {f : Addr} {fd : FuncData} (T : Txt P K (GG.tb K cl nm tbs) mg) (Fn : Fun K "_law_told" "_law_told" s__law_told f fd) (hm : mg "_law_told" = some (.ref f)) (w__law_word : FnWd P w K mg base (GG.tb K cl nm tbs) 1 "_law_word" kn W__law_word) : FnTd P w K mg base (GG.tb K cl nm tbs) 1 "_law_told" ["_law_deed"] FT__law_told :=
  td_mk (P := P) (w := w) (base := base) (G := (GG.tb K cl nm tbs)) (k := 1) (N := ["_law_deed", "_law_e"]) (ps := ["_law_deed"]) (B := [1]) (A2 := []) (kn := kn) (sb := sb) (b := true) (l := l__law_told) (mr := m__law_told) Fn hm sc__law_told (Fn.binds fun _ _ _ _ _ _ us hl => match us, hl with | [_], _ => rfl) rfl (Or.inl rfl) rfl rfl
    (by exact fun cc hc j hj => T.exm cc hc j ((show ∀ j ∈ ([0] : List Nat), j ∈ js by decide) j hj)) (fun X te hp => deed_r hp) (fun cdv A outer s H hr c => ⟨by exact .named ⟨rfl, by decide, .inl T.m_Refused⟩ rfl rfl (by decide) (fun ea eo ep ce we ed ef ev hz hf hl hk => by (obtain ⟨_, xe⟩ := T.xall ce hk); (have c := CT.suite (oi := some 1) (a := ea) (dd := ed) (fs := ef) (w := we) (v := ev) (oe := eo) (pn := ep) c); exact sss_wide (B := [1]) (by decide) (sss_one (ss_ret (se_tup (so_cons (so_tmp (se_word w__law_word (by decide) hr rfl (pv 1) hz hf hl hk)) (so_cons (so_tmp (se_whatX xe rfl (pv 1) hz hf hl)) (so_nil))))))) (.nil), sss_nil⟩)
abbrev s__law_refusals_right : Stmt := top 28
abbrev b__law_refusals_right_1 : MS := mDo (mMut 3 [.tmp (mCall [.var 0 pAny, .tmp (mOp [.tmp (mOp [.var 3 pAny] dLen) pAny, .tmp (mC (.int 1)) pAny] dAdd) pAny] F__law_take) pAny, .tmp (mCall [.var 0 pAny, .tmp (mOp [.tmp (mC (.int 1)) pAny, .tmp (mC (.int 41)) pAny, .tmp (mC (.int 0)) pAny, .tmp (mOp [.tmp (mC (.int 3)) pAny] dNeg) pAny, .tmp (mC (.int 40)) pAny, .tmp (mC (.int 2)) pAny, .tmp (mOp [.tmp (mC (.int 10)) pAny, .tmp (mC (.int 9)) pAny] dPow) pAny] dLst) pAny] F__law_one) pAny] fInsert) kDrop
abbrev t__law_refusals_right_2 : MT := mOr (mNot (mB (mChain (fun i j => decide (i ≤ j)) (fun i j => decide (i ≤ j)) (.tmp (mC (.int 2)) pAny) (.tmp (mOp [.var 3 pAny, .var 7 pAny] dIx) pAny) (.tmp (mC (.int 40)) pAny)))) (mAnd (mB (mOp [.var 7 pAny, .tmp (mC (.int 0)) pAny] dGt)) (mB (mOp [.tmp (mOp [.var 3 pAny, .tmp (mOp [.var 7 pAny, .tmp (mC (.int 1)) pAny] dSub) pAny] dIx) pAny, .tmp (mOp [.var 3 pAny, .var 7 pAny] dIx) pAny] dGe)))
abbrev u__law_refusals_right_3 : ME := mVar 7
abbrev w__law_refusals_right_4 : ME := mCallP ([.var 1 pAny] ++ [.var 2 pAny, .tmp (mOp [.var 3 pAny] dTupOf) pAny]) [] [0, 1, 2] F_class_count
def m__law_refusals_right : MS := mSeq (mParN [1, 2, 3] [mOp [.tmp (mC (.int 1)) pAny, .tmp (mCall [.var 0 pAny, .tmp (mC (.int 60)) pAny] F__law_take) pAny] dAdd, mCall [.var 0 pAny, .tmp (mC (.int 4)) pAny] F__law_take, mOp [.tmp (mCall [.var 0 pAny] F__law_lengths) pAny] dLstOf]) (mSeq (mIfS (mB (mOp [.tmp (mCall [.var 0 pAny, .tmp (mC (.int 2)) pAny] F__law_take) pAny, .tmp (mC (.int 0)) pAny] dEq)) (mSet 1 (mCall [.var 0 pAny, .tmp (mOp [.tmp (mC (.int 0)) pAny, .tmp (mC (.int 61)) pAny, .tmp (mOp [.tmp (mOp [.tmp (mC (.int 1)) pAny] dNeg) pAny, .tmp (mCall [.var 0 pAny, .tmp (mOp [.tmp (mC (.int 10)) pAny, .tmp (mC (.int 9)) pAny] dPow) pAny] F__law_take) pAny] dSub) pAny, .tmp (mOp [.tmp (mC (.int 61)) pAny, .tmp (mCall [.var 0 pAny, .tmp (mOp [.tmp (mC (.int 10)) pAny, .tmp (mC (.int 9)) pAny] dPow) pAny] F__law_take) pAny] dAdd) pAny] dLst) pAny] F__law_one)) (mNext)) (mSeq (mIfS (mB (mOp [.tmp (mCall [.var 0 pAny, .tmp (mC (.int 2)) pAny] F__law_take) pAny, .tmp (mC (.int 0)) pAny] dEq)) (mSet 2 (mCall [.var 0 pAny, .tmp (mOp [.tmp (mOp [.tmp (mC (.int 1)) pAny] dNeg) pAny, .tmp (mC (.int 4)) pAny, .tmp (mOp [.tmp (mC (.int 10)) pAny, .tmp (mC (.int 9)) pAny] dPow) pAny] dLst) pAny] F__law_one)) (mNext)) (mSeq (mFor (mIO [.tmp (mCall [.var 0 pAny, .tmp (mC (.int 3)) pAny] F__law_take) pAny] dR1) (gN 4) b__law_refusals_right_1) (mSeq (mDo (mLc [7] (mIO [.tmp (mOp [.var 3 pAny] dLen) pAny] dR1) (gN 7) (t__law_refusals_right_2) (u__law_refusals_right_3)) (kSet 5)) (mSeq (mSet 6 (mIf (mB (mOp [.var 5 pAny, .tmp (mOp [] dLst) pAny] dNe)) (mOp [.tmp (mC (.str "rule")) pAny, .tmp (mOp [.var 5 pAny, .tmp (mC (.int 0)) pAny] dIx) pAny] dTup) (mOp [] dTup))) (mSeq (mSet 6 (mIf (mNot (mB (mChain (fun i j => decide (i ≤ j)) (fun i j => decide (i ≤ j)) (.tmp (mC (.int 1)) pAny) (.var 1 pAny) (.tmp (mC (.int 60)) pAny)))) (mOp [.tmp (mC (.str "size")) pAny, .var 1 pAny] dTup) (mIf (mNot (mB (mChain (fun i j => decide (i ≤ j)) (fun i j => decide (i ≤ j)) (.tmp (mC (.int 0)) pAny) (.var 2 pAny) (.tmp (mC (.int 3)) pAny)))) (mOp [.tmp (mC (.str "ends")) pAny, .var 2 pAny] dTup) (mVar 6)))) (mDo (mOrV (mOp [.var 6 pAny, .tmp (mOp [] dTup) pAny] dEq) (mOp [.tmp (mOp [.tmp (mLam [] FT__law_told w__law_refusals_right_4) pAny] dShow) pAny, .tmp (mOp [.var 6 pAny] dShow) pAny] dEqT)) kRet)))))))
def F__law_refusals_right : FV := mDef 8 1 [1, 2, 3, 1, 2, 4, 5, 6, 6] m__law_refusals_right
theorem sc__law_refusals_right : FnScope ["_law_source", "_law_n", "_law_ends", "_law_rule", "_law_turn", "_law_faults", "_law_due", "_law_at"] ["_law_source"] (defScope s__law_refusals_right) := ⟨rfl, rfl, rfl, by decide +kernel, rfl, by decide +kernel, by decide +kernel⟩
theorem core__law_refusals_right {f : Addr} {fd : FuncData} (T : Txt P K (GG.tb K cl nm tbs) mg) (Fn : Fun K "_law_refusals_right" "_law_refusals_right" s__law_refusals_right f fd) (h__law_take : FnH P w K mg base (GG.tb K cl nm tbs) 1 "_law_take" ["_law_source", "_law_top"] F__law_take) (h__law_lengths : FnH P w K mg base (GG.tb K cl nm tbs) 2 "_law_lengths" ["_law_source"] F__law_lengths) (h__law_one : FnH P w K mg base (GG.tb K cl nm tbs) 2 "_law_one" ["_law_source", "_law_things"] F__law_one) (k_class_count_1_ends_rule : FnKw P w K mg base (GG.tb K cl nm tbs) 3 "class_count" ["n", "ends", "rule"] F_class_count 1 ["ends", "rule"] [0, 1, 2] []) (d__law_told : FnTd P w K mg base (GG.tb K cl nm tbs) 1 "_law_told" ["_law_deed"] FT__law_told) (LB : LamB base mg tbs fd (("_law_refusals_right" : Str) ++ ".<locals>." ++ "<lambda>")) : TV.FnOk P w K mg base (L2.CX P w) 6 f fd ["_law_source"] (spV (GG.tb K cl nm tbs) 1 F__law_refusals_right) := by
  refine okXC Fn sc__law_refusals_right (fun vs H Q E h => h.1) (fun cdv A outer s H vs Q E hc hr h => ?_)
  have c := ct_bodyX (P := P) (w := w) (mg := mg) (base := base) (qual := "_law_refusals_right") (f := f) (cd := cdv) (outer := outer) (s := s) (H := H) (E := E) (G := (GG.tb K cl nm tbs)) rfl sc__law_refusals_right hr
  exact body_ok (X := cxOf (L2.CX P w) P w K mg base ["_law_source", "_law_n", "_law_ends", "_law_rule", "_law_turn", "_law_faults", "_law_due", "_law_at"] "_law_refusals_right" (defScope s__law_refusals_right) f cdv A outer s H E) (N := ["_law_source", "_law_n", "_law_ends", "_law_rule", "_law_turn", "_law_faults", "_law_due", "_law_at"]) (A := [1, 2, 3, 1, 2, 4, 5, 6, 6]) (m := m__law_refusals_right) (body := defBody s__law_refusals_right) (sss_cons (ss_parN (ms := [mOp [.tmp (mC (.int 1)) pAny, .tmp (mCall [.var 0 pAny, .tmp (mC (.int 60)) pAny] F__law_take) pAny] dAdd, mCall [.var 0 pAny, .tmp (mC (.int 4)) pAny] F__law_take, mOp [.tmp (mCall [.var 0 pAny] F__law_lengths) pAny] dLstOf]) c (so_cons (so_tmp (se_add c (so_tmp (se_int)) (so_tmp (se_fn h__law_take rfl (by decide) c.tk hr (so_cons (so_var (pv 0)) (so_cons (so_tmp (se_int)) (so_nil))))))) (so_cons (so_tmp (se_fn h__law_take rfl (by decide) c.tk hr (so_cons (so_var (pv 0)) (so_cons (so_tmp (se_int)) (so_nil))))) (so_cons (so_tmp (se_lstOf c T.n_list (so_tmp (se_fn h__law_lengths rfl (by decide) c.tk hr (so_cons (so_var (pv 0)) (so_nil)))))) (so_nil)))) (pgs_cons (pg_name c.nd rfl (Or.inr rfl)) (pgs_cons (pg_name c.nd rfl (Or.inr rfl)) (pgs_cons (pg_name c.nd rfl (Or.inr rfl)) (pgs_nil)))))
    (sss_cons (ss_if (st_eq c (so_tmp (se_fn h__law_take rfl (by decide) c.tk hr (so_cons (so_var (pv 0)) (so_cons (so_tmp (se_int)) (so_nil))))) (so_tmp (se_int))) (sss_one (ss_set c rfl (Or.inr rfl) (se_fn h__law_one rfl (by decide) c.tk hr (so_cons (so_var (pv 0)) (so_cons (so_tmp (se_lst (so_cons (so_tmp (se_int)) (so_cons (so_tmp (se_int)) (so_cons (so_tmp (se_sub (so_tmp (se_neg (so_tmp (se_int)))) (so_tmp (se_fn h__law_take rfl (by decide) c.tk hr (so_cons (so_var (pv 0)) (so_cons (so_tmp (se_pow (so_tmp (se_int)) (so_tmp (se_int)))) (so_nil))))))) (so_cons (so_tmp (se_add c (so_tmp (se_int)) (so_tmp (se_fn h__law_take rfl (by decide) c.tk hr (so_cons (so_var (pv 0)) (so_cons (so_tmp (se_pow (so_tmp (se_int)) (so_tmp (se_int)))) (so_nil))))))) (so_nil))))))) (so_nil)))))) (sss_nil))
    (sss_cons (ss_if (st_eq c (so_tmp (se_fn h__law_take rfl (by decide) c.tk hr (so_cons (so_var (pv 0)) (so_cons (so_tmp (se_int)) (so_nil))))) (so_tmp (se_int))) (sss_one (ss_set c rfl (Or.inr rfl) (se_fn h__law_one rfl (by decide) c.tk hr (so_cons (so_var (pv 0)) (so_cons (so_tmp (se_lst (so_cons (so_tmp (se_neg (so_tmp (se_int)))) (so_cons (so_tmp (se_int)) (so_cons (so_tmp (se_pow (so_tmp (se_int)) (so_tmp (se_int)))) (so_nil)))))) (so_nil)))))) (sss_nil))
    (sss_cons (ss_for c (si_range1 (by rfl) T.n_range (so_tmp (se_fn h__law_take rfl (by decide) c.tk hr (so_cons (so_var (pv 0)) (so_cons (so_tmp (se_int)) (so_nil)))))) (pg_name c.nd rfl (Or.inl rfl)) gok_name nex_name (sss_one (ss_expr (se_insert c (pv 3) (so_cons (so_tmp (se_fn h__law_take rfl (by decide) c.tk hr (so_cons (so_var (pv 0)) (so_cons (so_tmp (se_add c (so_tmp (se_lenN c T.n_len (so_var (pv 3)))) (so_tmp (se_int)))) (so_nil))))) (so_cons (so_tmp (se_fn h__law_one rfl (by decide) c.tk hr (so_cons (so_var (pv 0)) (so_cons (so_tmp (se_lst (so_cons (so_tmp (se_int)) (so_cons (so_tmp (se_int)) (so_cons (so_tmp (se_int)) (so_cons (so_tmp (se_neg (so_tmp (se_int)))) (so_cons (so_tmp (se_int)) (so_cons (so_tmp (se_int)) (so_cons (so_tmp (se_pow (so_tmp (se_int)) (so_tmp (se_int)))) (so_nil)))))))))) (so_nil))))) (so_nil))) rfl))))
    (sss_cons (ss_setLc (own := [("_law_at", 7)]) c rfl rfl rfl (si_range1 (by rfl) T.n_range (so_tmp (se_lenN c T.n_len (so_var (pv 3))))) (show BlkOk ["_law_source", "_law_n", "_law_ends", "_law_rule", "_law_turn", "_law_faults", "_law_due", "_law_at"] (defScope s__law_refusals_right) _ _ from ⟨rfl, by decide +kernel, by decide +kernel, by decide +kernel, by decide +kernel⟩) gok_name lenk_name (by decide) (fun _ _ _ _ _ => pg_name c.blk.nd rfl (Or.inl rfl)) (fun _ _ _ _ _ => sts_one (st_bool (sw_or (st_not (st_chain op_le op_le (so_tmp (se_int)) (so_tmp (se_ix c.blk (so_var (pv 3)) (so_var (pv 7)))) (so_tmp (se_int)))) (sw_or1 (st_bool (sw_and (st_gt (so_var (pv 7)) (so_tmp (se_int))) (sw_and1 (st_ge (so_tmp (se_ix c.blk (so_var (pv 3)) (so_tmp (se_sub (so_var (pv 7)) (so_tmp (se_int)))))) (so_tmp (se_ix c.blk (so_var (pv 3)) (so_var (pv 7)))))))))))) (fun _ _ _ _ _ => se_var (pv 7)))
    (sss_cons (ss_set c rfl (Or.inl rfl) (se_ifExp (st_ne c (so_var (pv 5)) (so_tmp (se_lst (so_nil)))) (se_tup (so_cons (so_tmp (se_str)) (so_cons (so_tmp (se_ix c (so_var (pv 5)) (so_tmp (se_int)))) (so_nil)))) (se_tup (so_nil))))
    (sss_cons (ss_set c rfl (Or.inl rfl) (se_ifExp (st_not (st_chain op_le op_le (so_tmp (se_int)) (so_var (pv 1)) (so_tmp (se_int)))) (se_tup (so_cons (so_tmp (se_str)) (so_cons (so_var (pv 1)) (so_nil)))) (se_ifExp (st_not (st_chain op_le op_le (so_tmp (se_int)) (so_var (pv 2)) (so_tmp (se_int)))) (se_tup (so_cons (so_tmp (se_str)) (so_cons (so_var (pv 2)) (so_nil)))) (se_var (pv 6)))))
    (sss_one (ss_ret (se_or (se_eq c (so_var (pv 6)) (so_tmp (se_tup (so_nil)))) (se_one (se_eqT (so_tmp (se_show c T.n_repr (so_tmp (se_lam (bs := tbs) (os := []) (mb := w__law_refusals_right_4) (fun _ h => h) rfl rfl d__law_told (by decide) (lam_b LB hc) hr (LamX.lamS_by (show LamX.lamSB (defScope s__law_refusals_right) _ = true by decide +kernel)) rfl (so_nil) (fun lA lo ls lH lE lf lc hr => (have c := ct_lam (G := (GG.tb K cl nm tbs)) (outer := lo) (s := ls) (H := lH) (E := lE) (A := lA) rfl c.nd hr; (se_kw k_class_count_1_ends_rule (fun _ => .nil) rfl rfl rfl (by decide) (by decide) (by decide) c.tk hr (so_cons (so_var (pv 1)) (so_nil)) (pk_consO (so_var (pv 2)) (pk_consO (so_tmp (se_tupOf c T.n_tuple (so_var (pv 3)))) (pk_nilO)))))))))) (so_tmp (se_show c T.n_repr (so_var (pv 6)))))))))))))))) h (by decide)
theorem ok__law_refusals_right {f : Addr} {fd : FuncData} (T : Txt P K (GG.tb K cl nm tbs) mg) (Fn : Fun K "_law_refusals_right" "_law_refusals_right" s__law_refusals_right f fd) (hm : mg "_law_refusals_right" = some (.ref f)) (h__law_take : FnH P w K mg base (GG.tb K cl nm tbs) 1 "_law_take" ["_law_source", "_law_top"] F__law_take) (h__law_lengths : FnH P w K mg base (GG.tb K cl nm tbs) 2 "_law_lengths" ["_law_source"] F__law_lengths) (h__law_one : FnH P w K mg base (GG.tb K cl nm tbs) 2 "_law_one" ["_law_source", "_law_things"] F__law_one) (k_class_count_1_ends_rule : FnKw P w K mg base (GG.tb K cl nm tbs) 3 "class_count" ["n", "ends", "rule"] F_class_count 1 ["ends", "rule"] [0, 1, 2] []) (d__law_told : FnTd P w K mg base (GG.tb K cl nm tbs) 1 "_law_told" ["_law_deed"] FT__law_told) (LB : LamB base mg tbs fd (("_law_refusals_right" : Str) ++ ".<locals>." ++ "<lambda>")) : FnH P w K mg base (GG.tb K cl nm tbs) 6 "_law_refusals_right" ["_law_source"] F__law_refusals_right :=
  ⟨f, fd, core__law_refusals_right T Fn h__law_take h__law_lengths h__law_one k_class_count_1_ends_rule d__law_told LB, hm, Fn.kp, Fn.binds fun _ _ _ _ _ _ us hl => match us, hl with | [_], _ => rfl⟩
abbrev s__law_product : Stmt := top 26
abbrev b__law_product_1 : MS := mSet 1 (mOp [.var 1 pAny, .tmp (mOp [.var 2 pAny, .tmp (mC (.int 1)) pAny] dAdd) pAny] dMulW)
def m__law_product : MS := mSeq (mSet 1 (mC (.int 1))) (mSeq (mFor (mIO [.var 0 pAny] dR1) (gN 2) b__law_product_1) (mDo (mVar 1) kRet))
def F__law_product : FV := mDef 3 1 [1, 2, 1] m__law_product
theorem sc__law_product : FnScope ["_law_n", "_law_found", "_law_turn"] ["_law_n"] (defScope s__law_product) := ⟨rfl, rfl, rfl, by decide +kernel, rfl, by decide +kernel, by decide +kernel⟩
theorem core__law_product {f : Addr} {fd : FuncData} (T : Txt P K (GG.tb K cl nm tbs) mg) (Fn : Fun K "_law_product" "_law_product" s__law_product f fd) : TV.FnOk P w K mg base (L2.CX P w) 1 f fd ["_law_n"] (spV (GG.tb K cl nm tbs) 1 F__law_product) := by
  refine TV.okX Fn sc__law_product (fun vs H Q E h => h.1) (fun cdv A outer s H vs Q E hr h => ?_)
  have c := ct_bodyX (P := P) (w := w) (mg := mg) (base := base) (qual := "_law_product") (f := f) (cd := cdv) (outer := outer) (s := s) (H := H) (E := E) (G := (GG.tb K cl nm tbs)) rfl sc__law_product hr
  exact body_ok (X := cxOf (L2.CX P w) P w K mg base ["_law_n", "_law_found", "_law_turn"] "_law_product" (defScope s__law_product) f cdv A outer s H E) (N := ["_law_n", "_law_found", "_law_turn"]) (A := [1, 2, 1]) (m := m__law_product) (body := defBody s__law_product) (sss_cons (ss_set c rfl (Or.inl rfl) (se_int))
    (sss_cons (ss_for c (si_range1 (by rfl) T.n_range (so_var (pv 0))) (pg_name c.nd rfl (Or.inl rfl)) gok_name nex_name (sss_one (ss_set c rfl (Or.inl rfl) (se_mulW (so_var (pv 1)) (so_tmp (se_add c (so_var (pv 2)) (so_tmp (se_int))))))))
    (sss_one (ss_ret (se_var (pv 1)))))) h (by decide)
theorem ok__law_product {f : Addr} {fd : FuncData} (T : Txt P K (GG.tb K cl nm tbs) mg) (Fn : Fun K "_law_product" "_law_product" s__law_product f fd) (hm : mg "_law_product" = some (.ref f)) : FnH P w K mg base (GG.tb K cl nm tbs) 1 "_law_product" ["_law_n"] F__law_product :=
  ⟨f, fd, core__law_product T Fn, hm, Fn.kp, Fn.binds fun _ _ _ _ _ _ us hl => match us, hl with | [_], _ => rfl⟩
abbrev s_law : Stmt := top 29
abbrev t_law_1 : MT := mB (mOp [.var 10 pAny, .var 8 pAny] dNe)
abbrev u_law_2 : ME := mVar 10
def m_law : MS := mSeq (mSet 1 (mCall [.var 0 pAny, .tmp (mC (.int 0)) pAny] F__law_pool)) (mSeq (mPar 2 3 (mCall [.var 1 pAny, .tmp (mOp [.tmp (mC (.int 60)) pAny, .tmp (mOp [.tmp (mC (.int 1)) pAny, .tmp (mCall [.var 1 pAny, .tmp (mC (.int 60)) pAny] F__law_take) pAny] dAdd) pAny, .tmp (mOp [.tmp (mC (.int 1)) pAny, .tmp (mCall [.var 1 pAny, .tmp (mC (.int 8)) pAny] F__law_take) pAny] dAdd) pAny] dLst) pAny] F__law_one) (mCall [.var 1 pAny, .tmp (mC (.int 4)) pAny] F__law_take)) (mSeq (mIfS (mB (mOp [.tmp (mOp [.tmp (mCallP ([.var 2 pAny] ++ [.tmp (mOp [] dTup) pAny, .var 3 pAny]) [] [0, 2, 1] F_class_count) pAny] dShow) pAny, .tmp (mOp [.tmp (mCall [.var 2 pAny] F__law_product) pAny] dShow) pAny] dNeT)) (mDo (mC (.bl false)) kRet) (mNext)) (mSeq (mPar 2 4 (mCall [.var 1 pAny, .tmp (mOp [.tmp (mOp [.tmp (mC (.int 1)) pAny, .tmp (mCall [.var 1 pAny, .tmp (mC (.int 40)) pAny] F__law_take) pAny] dAdd) pAny, .tmp (mC (.int 40)) pAny, .tmp (mC (.int 41)) pAny, .tmp (mOp [.tmp (mC (.int 41)) pAny, .tmp (mCall [.var 1 pAny, .tmp (mC (.int 20)) pAny] F__law_take) pAny] dAdd) pAny] dLst) pAny] F__law_one) (mOp [.tmp (mC (.int 2)) pAny, .tmp (mC (.int 41)) pAny] dTupR2)) (mSeq (mPar 5 6 (mCallP ([.var 2 pAny] ++ [.var 3 pAny, .var 4 pAny]) [] [0, 1, 2] F_class_count) (mCallP ([.var 2 pAny] ++ [.var 3 pAny]) [.non] [0, 1, 2] F_class_count)) (mSeq (mIfS (mOr (mB (mOp [.var 5 pAny, .var 6 pAny] dLt)) (mB (mOp [.tmp (mOp [.var 5 pAny, .var 6 pAny] dGt) pAny, .tmp (mOp [.var 2 pAny, .tmp (mOp [.tmp (mOp [.tmp (mC (.int 42)) pAny, .tmp (mC (.int 41)) pAny, .tmp (mC (.int 41)) pAny, .tmp (mC (.int 40)) pAny] dLst) pAny, .var 3 pAny] dIx) pAny] dGt) pAny] dNe))) (mDo (mC (.bl false)) kRet) (mNext)) (mSeq (mDo (mOp [.tmp (mCall [.var 1 pAny] F__law_lengths) pAny, .tmp (mOp [.tmp (mC (.int 2)) pAny, .tmp (mCall [.var 1 pAny, .tmp (mC (.int 39)) pAny] F__law_take) pAny] dAdd) pAny] dTup) (kUnp [7, 8])) (mSeq (mSet 9 (mOp [.tmp (mOp [.tmp (mOp [.tmp (mLc [10] (mI1 (mVar 7) D.seq) (gN 10) (t_law_1) (u_law_2)) pAny, .tmp (mOp [.var 8 pAny] dLst) pAny] dAdd) pAny] dSort) pAny] dTupOf)) (mSeq (mIfS (mB (mOp [.tmp (mCallP ([.var 2 pAny] ++ [.var 3 pAny, .var 9 pAny]) [] [0, 1, 2] F_class_count) pAny, .tmp (mCallP ([.var 2 pAny] ++ [.var 3 pAny, .var 7 pAny]) [] [0, 1, 2] F_class_count) pAny] dGt)) (mDo (mC (.bl false)) kRet) (mNext)) (mDo (mAndV (mCall [.var 1 pAny] F__law_refusals_right) (mCall [.var 1 pAny] F__law_refusals_right)) kRet)))))))))
def F_law : FV := mDef 11 1 [1, 2, 3, 2, 4, 5, 6, 7, 8, 9] m_law
theorem sc_law : FnScope ["_law_script", "_law_source", "_law_n", "_law_ends", "_law_whole", "_law_told_here", "_law_free", "_law_lengths_here", "_law_more", "_law_wider", "_law_length"] ["_law_script"] (defScope s_law) := ⟨rfl, rfl, rfl, by decide +kernel, rfl, by decide +kernel, by decide +kernel⟩
theorem core_law {f : Addr} {fd : FuncData} (T : Txt P K (GG.tb K cl nm tbs) mg) (Fn : Fun K "law" "law" s_law f fd) (h__law_pool : FnH P w K mg base (GG.tb K cl nm tbs) 1 "_law_pool" ["_law_script", "_law_k"] F__law_pool) (h__law_take : FnH P w K mg base (GG.tb K cl nm tbs) 1 "_law_take" ["_law_source", "_law_top"] F__law_take) (h__law_one : FnH P w K mg base (GG.tb K cl nm tbs) 2 "_law_one" ["_law_source", "_law_things"] F__law_one) (h__law_product : FnH P w K mg base (GG.tb K cl nm tbs) 1 "_law_product" ["_law_n"] F__law_product) (h__law_lengths : FnH P w K mg base (GG.tb K cl nm tbs) 2 "_law_lengths" ["_law_source"] F__law_lengths) (h__law_refusals_right : FnH P w K mg base (GG.tb K cl nm tbs) 6 "_law_refusals_right" ["_law_source"] F__law_refusals_right) (k_class_count_1_rule_ends : FnKw P w K mg base (GG.tb K cl nm tbs) 3 "class_count" ["n", "ends", "rule"] F_class_count 1 ["rule", "ends"] [0, 2, 1] []) (k_class_count_1_ends_rule : FnKw P w K mg base (GG.tb K cl nm tbs) 3 "class_count" ["n", "ends", "rule"] F_class_count 1 ["ends", "rule"] [0, 1, 2] []) (k_class_count_1_ends : FnKw P w K mg base (GG.tb K cl nm tbs) 3 "class_count" ["n", "ends", "rule"] F_class_count 1 ["ends"] [0, 1, 2] [V.non]) : TV.FnOk P w K mg base CX0 7 f fd ["_law_script"] (spV0 (GG.tb K cl nm tbs) 1 F_law) := by
  refine TV.okN Fn sc_law (fun vs H Q E h => h.1) (fun cdv A outer s H vs Q E hr h => ?_)
  have c0 := ct_body (P := P) (w := w) (mg := mg) (base := base) (qual := "law") (f := f) (cd := cdv) (outer := outer) (s := s) (H := H) (E := E) (G := (GG.tb K cl nm tbs)) rfl sc_law hr
  have c : CT _ (GG.tb K cl nm tbs) (WD E0) := c0
  exact body_ok (E := E0) (X := (cxOf CX0 P w K mg base ["_law_script", "_law_source", "_law_n", "_law_ends", "_law_whole", "_law_told_here", "_law_free", "_law_lengths_here", "_law_more", "_law_wider", "_law_length"] "law" (defScope s_law) f cdv A outer s H E).nox) (N := ["_law_script", "_law_source", "_law_n", "_law_ends", "_law_whole", "_law_told_here", "_law_free", "_law_lengths_here", "_law_more", "_law_wider", "_law_length"]) (A := [1, 2, 3, 2, 4, 5, 6, 7, 8, 9]) (m := m_law) (body := defBody s_law) (sss_cons (ss_set c rfl (Or.inl rfl) (se_fn h__law_pool rfl (by decide) c.tk hr (so_cons (so_var (pv 0)) (so_cons (so_tmp (se_int)) (so_nil)))))
    (sss_cons (ss_par c rfl rfl (by decide) rfl rfl (se_fn h__law_one rfl (by decide) c.tk hr (so_cons (so_var (pv 1)) (so_cons (so_tmp (se_lst (so_cons (so_tmp (se_int)) (so_cons (so_tmp (se_add c (so_tmp (se_int)) (so_tmp (se_fn h__law_take rfl (by decide) c.tk hr (so_cons (so_var (pv 1)) (so_cons (so_tmp (se_int)) (so_nil))))))) (so_cons (so_tmp (se_add c (so_tmp (se_int)) (so_tmp (se_fn h__law_take rfl (by decide) c.tk hr (so_cons (so_var (pv 1)) (so_cons (so_tmp (se_int)) (so_nil))))))) (so_nil)))))) (so_nil)))) (se_fn h__law_take rfl (by decide) c.tk hr (so_cons (so_var (pv 1)) (so_cons (so_tmp (se_int)) (so_nil)))) rfl)
    (sss_cons (ss_if (st_neT (so_tmp (se_show c T.n_repr (so_tmp (se_kw k_class_count_1_rule_ends (fun _ => .nil) rfl rfl rfl (by decide) (by decide) (by decide) c.tk hr (so_cons (so_var (pv 2)) (so_nil)) (pk_consO (so_tmp (se_tup (so_nil))) (pk_consO (so_var (pv 3)) (pk_nilO))))))) (so_tmp (se_show c T.n_repr (so_tmp (se_fn h__law_product rfl (by decide) c.tk hr (so_cons (so_var (pv 2)) (so_nil))))))) (sss_one (ss_ret (se_bl))) (sss_nil))
    (sss_cons (ss_par c rfl rfl (by decide) rfl rfl (se_fn h__law_one rfl (by decide) c.tk hr (so_cons (so_var (pv 1)) (so_cons (so_tmp (se_lst (so_cons (so_tmp (se_add c (so_tmp (se_int)) (so_tmp (se_fn h__law_take rfl (by decide) c.tk hr (so_cons (so_var (pv 1)) (so_cons (so_tmp (se_int)) (so_nil))))))) (so_cons (so_tmp (se_int)) (so_cons (so_tmp (se_int)) (so_cons (so_tmp (se_add c (so_tmp (se_int)) (so_tmp (se_fn h__law_take rfl (by decide) c.tk hr (so_cons (so_var (pv 1)) (so_cons (so_tmp (se_int)) (so_nil))))))) (so_nil))))))) (so_nil)))) (se_tupR2 c T.n_tuple T.n_range (so_tmp (se_int)) (so_tmp (se_int))) rfl)
    (sss_cons (ss_par c rfl rfl (by decide) rfl rfl (se_kw k_class_count_1_ends_rule (fun _ => .nil) rfl rfl rfl (by decide) (by decide) (by decide) c.tk hr (so_cons (so_var (pv 2)) (so_nil)) (pk_consO (so_var (pv 3)) (pk_consO (so_var (pv 4)) (pk_nilO)))) (se_kw k_class_count_1_ends (fun _ => .cons .non (.nil)) rfl rfl rfl (by decide) (by decide) (by decide) c.tk hr (so_cons (so_var (pv 2)) (so_nil)) (pk_consO (so_var (pv 3)) (pk_nilO))) rfl)
    (sss_cons (ss_if (st_bool (sw_or (st_lt (so_var (pv 5)) (so_var (pv 6))) (sw_or1 (st_ne c (so_tmp (se_gt (so_var (pv 5)) (so_var (pv 6)))) (so_tmp (se_gt (so_var (pv 2)) (so_tmp (se_ix c (so_tmp (se_lst (so_cons (so_tmp (se_int)) (so_cons (so_tmp (se_int)) (so_cons (so_tmp (se_int)) (so_cons (so_tmp (se_int)) (so_nil))))))) (so_var (pv 3)))))))))) (sss_one (ss_ret (se_bl))) (sss_nil))
    (sss_cons (ss_unp c (se_tup (so_cons (so_tmp (se_fn h__law_lengths rfl (by decide) c.tk hr (so_cons (so_var (pv 1)) (so_nil)))) (so_cons (so_tmp (se_add c (so_tmp (se_int)) (so_tmp (se_fn h__law_take rfl (by decide) c.tk hr (so_cons (so_var (pv 1)) (so_cons (so_tmp (se_int)) (so_nil))))))) (so_nil)))) (pgs_cons (pg_name c.nd rfl (Or.inl rfl)) (pgs_cons (pg_name c.nd rfl (Or.inr rfl)) (pgs_nil))))
    (sss_cons (ss_set c rfl (Or.inl rfl) (se_tupOf c T.n_tuple (so_tmp (se_sort c T.n_sorted (so_tmp (se_add c (so_tmp (se_lc (own := [("_law_length", 10)]) c (si_seq c (se_var (pv 7))) (show BlkOk ["_law_script", "_law_source", "_law_n", "_law_ends", "_law_whole", "_law_told_here", "_law_free", "_law_lengths_here", "_law_more", "_law_wider", "_law_length"] (defScope s_law) _ _ from ⟨rfl, by decide +kernel, by decide +kernel, by decide +kernel, by decide +kernel⟩) gok_name lenk_name (by decide) (fun _ _ _ _ _ => pg_name c.blk.nd rfl (Or.inl rfl)) (fun _ _ _ _ _ => sts_one (st_ne c.blk (so_var (pv 10)) (so_var (pv 8)))) (fun _ _ _ _ _ => se_var (pv 10)))) (so_tmp (se_lst (so_cons (so_var (pv 8)) (so_nil))))))))))
    (sss_cons (ss_if (st_gt (so_tmp (se_kw k_class_count_1_ends_rule (fun _ => .nil) rfl rfl rfl (by decide) (by decide) (by decide) c.tk hr (so_cons (so_var (pv 2)) (so_nil)) (pk_consO (so_var (pv 3)) (pk_consO (so_var (pv 9)) (pk_nilO))))) (so_tmp (se_kw k_class_count_1_ends_rule (fun _ => .nil) rfl rfl rfl (by decide) (by decide) (by decide) c.tk hr (so_cons (so_var (pv 2)) (so_nil)) (pk_consO (so_var (pv 3)) (pk_consO (so_var (pv 7)) (pk_nilO)))))) (sss_one (ss_ret (se_bl))) (sss_nil))
    (sss_one (ss_ret (se_and (se_fn h__law_refusals_right rfl (by decide) c.tk hr (so_cons (so_var (pv 1)) (so_nil))) (se_one (se_fn h__law_refusals_right rfl (by decide) c.tk hr (so_cons (so_var (pv 1)) (so_nil)))))))))))))))) h (by decide)
theorem kw_class_count_1_ends_rule {f : Addr} {fd : FuncData} (Fn : FnD K "class_count" "class_count" s_class_count [] [("ends", V.int 0), ("rule", V.non)] f fd) (core : TV.FnOk P w K mg base (L2.CX P w) 3 f fd ["n", "ends", "rule"] (spV (GG.tb K cl nm tbs) 3 F_class_count)) (hm : mg "class_count" = some (.ref f)) : FnKw P w K mg base (GG.tb K cl nm tbs) 3 "class_count" ["n", "ends", "rule"] F_class_count 1 ["ends", "rule"] [0, 1, 2] [] := by
  obtain ⟨dd, kb⟩ := kb_kw (ps := ["n", "ends", "rule"]) Fn 1 ["ends", "rule"] ([] : List (Str × V)) [0, 1, 2] (by decide) (by decide) fun D doc pm an cdv ct us mv ws h1 h2 h3 => match us, mv, ws, h1, h2, h3 with | [_], [], [_, _], _, _, _ => rfl
  exact ⟨f, fd, dd, core, hm, Fn.kp, kb⟩
theorem kw_class_count_1_rule_ends {f : Addr} {fd : FuncData} (Fn : FnD K "class_count" "class_count" s_class_count [] [("ends", V.int 0), ("rule", V.non)] f fd) (core : TV.FnOk P w K mg base (L2.CX P w) 3 f fd ["n", "ends", "rule"] (spV (GG.tb K cl nm tbs) 3 F_class_count)) (hm : mg "class_count" = some (.ref f)) : FnKw P w K mg base (GG.tb K cl nm tbs) 3 "class_count" ["n", "ends", "rule"] F_class_count 1 ["rule", "ends"] [0, 2, 1] [] := by
  obtain ⟨dd, kb⟩ := kb_kw (ps := ["n", "ends", "rule"]) Fn 1 ["rule", "ends"] ([] : List (Str × V)) [0, 2, 1] (by decide) (by decide) fun D doc pm an cdv ct us mv ws h1 h2 h3 => match us, mv, ws, h1, h2, h3 with | [_], [], [_, _], _, _, _ => rfl
  exact ⟨f, fd, dd, core, hm, Fn.kp, kb⟩
theorem kw_class_count_1_ends {f : Addr} {fd : FuncData} (Fn : FnD K "class_count" "class_count" s_class_count [] [("ends", V.int 0), ("rule", V.non)] f fd) (core : TV.FnOk P w K mg base (L2.CX P w) 3 f fd ["n", "ends", "rule"] (spV (GG.tb K cl nm tbs) 3 F_class_count)) (hm : mg "class_count" = some (.ref f)) : FnKw P w K mg base (GG.tb K cl nm tbs) 3 "class_count" ["n", "ends", "rule"] F_class_count 1 ["ends"] [0, 1, 2] [V.non] := by
  obtain ⟨dd, kb⟩ := kb_kw (ps := ["n", "ends", "rule"]) Fn 1 ["ends"] ([("rule", V.non)] : List (Str × V)) [0, 1, 2] (by decide) (by decide) fun D doc pm an cdv ct us mv ws h1 h2 h3 => match us, mv, ws, h1, h2, h3 with | [_], [_], [_], _, _, _ => ⟨_, _, _, _, _, _, rfl, rfl, rfl⟩
  exact ⟨f, fd, dd, core, hm, Fn.kp, kb⟩
end
end K54
namespace K54
open PySem PySem.Spec PyProof.Rows L2 TV PySem.RFX
theorem all_mk {l : PySem.W.OpenLaw} {w : World} {K : PySem.W.Frag} {h : Heap} {mg : Str → Option Value} {fa : Addr} (X : K.In h) (G : h.Ns mainGlobals mg) (hfa : mg "law" = some (.ref fa))
    {t_BOTH_WALLS : Tok} {t_LEAST_LENGTH : Tok} {t_MOST_COUNTED : Tok} {t_MOST_STONES : Tok} {fI cda cc : Addr} {r_oc r_kV r_doc r_pm r_ct r_cl r_ccl : Value} {r_od r_an r_cld r_cdd : Option Addr} {r_osl r_csl r_ccs : Array (Option Value)} {r_vs : Array Value} {r_file : Str} {r_tf : Tok} {C_Refused : Addr} {x_Refused_nm x_Refused_q : Str} {x_Refused_N : Addr} {x_Refused_bs : List Value} {x_Refused_sn : List Str} {x_Refused_sub : List Value} {x_Refused_ab : Bool} {x_Refused_col : Option Bool} {x_Refused_dd : Option Addr} {x_Refused_k0 x_Refused_k1 x_Refused_k2 x_Refused_k3 x_Refused_k5 : Option Value} {C_BadSize : Addr} {x_BadSize_nm x_BadSize_q : Str} {x_BadSize_N : Addr} {x_BadSize_bs : List Value} {x_BadSize_sn : List Str} {x_BadSize_sub : List Value} {x_BadSize_ab : Bool} {x_BadSize_col : Option Bool} {x_BadSize_dd : Option Addr} {x_BadSize_k0 x_BadSize_k1 x_BadSize_k2 x_BadSize_k3 x_BadSize_k5 : Option Value} {C_BadEnds : Addr} {x_BadEnds_nm x_BadEnds_q : Str} {x_BadEnds_N : Addr} {x_BadEnds_bs : List Value} {x_BadEnds_sn : List Str} {x_BadEnds_sub : List Value} {x_BadEnds_ab : Bool} {x_BadEnds_col : Option Bool} {x_BadEnds_dd : Option Addr} {x_BadEnds_k0 x_BadEnds_k1 x_BadEnds_k2 x_BadEnds_k3 x_BadEnds_k5 : Option Value} {C_BadRule : Addr} {x_BadRule_nm x_BadRule_q : Str} {x_BadRule_N : Addr} {x_BadRule_bs : List Value} {x_BadRule_sn : List Str} {x_BadRule_sub : List Value} {x_BadRule_ab : Bool} {x_BadRule_col : Option Bool} {x_BadRule_dd : Option Addr} {x_BadRule_k0 x_BadRule_k1 x_BadRule_k2 x_BadRule_k3 x_BadRule_k5 : Option Value} {f__law_pool : Addr} {od__law_pool an__law_pool : Option Addr} {sl__law_pool : Array (Option Value)} {oc__law_pool dc__law_pool pm__law_pool cd__law_pool ct__law_pool : Value} {kV__law_pool : Value} {f__law_take : Addr} {od__law_take an__law_take : Option Addr} {sl__law_take : Array (Option Value)} {oc__law_take dc__law_take pm__law_take cd__law_take ct__law_take : Value} {kV__law_take : Value} {f__law_one : Addr} {od__law_one an__law_one : Option Addr} {sl__law_one : Array (Option Value)} {oc__law_one dc__law_one pm__law_one cd__law_one ct__law_one : Value} {kV__law_one : Value} {f_want_ends : Addr} {od_want_ends an_want_ends : Option Addr} {sl_want_ends : Array (Option Value)} {oc_want_ends dc_want_ends pm_want_ends cd_want_ends ct_want_ends : Value} {kV_want_ends : Value} {f_want_rule : Addr} {od_want_rule an_want_rule : Option Addr} {sl_want_rule : Array (Option Value)} {oc_want_rule dc_want_rule pm_want_rule cd_want_rule ct_want_rule : Value} {kV_want_rule : Value} {f_lets : Addr} {od_lets an_lets : Option Addr} {sl_lets : Array (Option Value)} {oc_lets dc_lets pm_lets cd_lets ct_lets : Value} {kV_lets : Value} {f_ways : Addr} {od_ways an_ways : Option Addr} {sl_ways : Array (Option Value)} {oc_ways dc_ways pm_ways cd_ways ct_ways : Value} {kV_ways : Value} {f_inner_counts : Addr} {od_inner_counts an_inner_counts : Option Addr} {sl_inner_counts : Array (Option Value)} {oc_inner_counts dc_inner_counts pm_inner_counts cd_inner_counts ct_inner_counts : Value} {kV_inner_counts : Value} {f_end_counts : Addr} {od_end_counts an_end_counts : Option Addr} {sl_end_counts : Array (Option Value)} {oc_end_counts dc_end_counts pm_end_counts cd_end_counts ct_end_counts : Value} {kV_end_counts : Value} {f_class_count : Addr} {od_class_count an_class_count : Option Addr} {sl_class_count : Array (Option Value)} {oc_class_count dc_class_count pm_class_count cd_class_count ct_class_count : Value} {D_class_count : Addr} {w_class_count_ends : Tok} {f__law_lengths : Addr} {od__law_lengths an__law_lengths : Option Addr} {sl__law_lengths : Array (Option Value)} {oc__law_lengths dc__law_lengths pm__law_lengths cd__law_lengths ct__law_lengths : Value} {kV__law_lengths : Value} {f__law_word : Addr} {od__law_word an__law_word : Option Addr} {sl__law_word : Array (Option Value)} {oc__law_word dc__law_word pm__law_word cd__law_word ct__law_word : Value} {kV__law_word : Value} {f__law_told : Addr} {od__law_told an__law_told : Option Addr} {sl__law_told : Array (Option Value)} {oc__law_told dc__law_told pm__law_told cd__law_told ct__law_told : Value} {kV__law_told : Value} {f__law_refusals_right : Addr} {od__law_refusals_right an__law_refusals_right : Option Addr} {sl__law_refusals_right : Array (Option Value)} {oc__law_refusals_right dc__law_refusals_right pm__law_refusals_right cd__law_refusals_right ct__law_refusals_right : Value} {kV__law_refusals_right : Value} {f__law_product : Addr} {od__law_product an__law_product : Option Addr} {sl__law_product : Array (Option Value)} {oc__law_product dc__law_product pm__law_product cd__law_product ct__law_product : Value} {kV__law_product : Value} {f_law : Addr} {od_law an_law : Option Addr} {sl_law : Array (Option Value)} {oc_law dc_law pm_law cd_law ct_law : Value} {kV_law : Value}
    (n_enumerate : PySem.W.nsIn K mainGlobals "enumerate" = some none) (n_int : PySem.W.nsIn K mainGlobals "int" = some none) (n_isinstance : PySem.W.nsIn K mainGlobals "isinstance" = some none) (n_len : PySem.W.nsIn K mainGlobals "len" = some none) (n_list : PySem.W.nsIn K mainGlobals "list" = some none) (n_max : PySem.W.nsIn K mainGlobals "max" = some none) (n_range : PySem.W.nsIn K mainGlobals "range" = some none) (n_repr : PySem.W.nsIn K mainGlobals "repr" = some none) (n_sorted : PySem.W.nsIn K mainGlobals "sorted" = some none) (n_sum : PySem.W.nsIn K mainGlobals "sum" = some none) (n_tuple : PySem.W.nsIn K mainGlobals "tuple" = some none) (c_BOTH_WALLS : PySem.W.nsIn K mainGlobals "BOTH_WALLS" = some (some (.int (3) t_BOTH_WALLS))) (c_LEAST_LENGTH : PySem.W.nsIn K mainGlobals "LEAST_LENGTH" = some (some (.int (2) t_LEAST_LENGTH))) (c_MOST_COUNTED : PySem.W.nsIn K mainGlobals "MOST_COUNTED" = some (some (.int (60) t_MOST_COUNTED))) (c_MOST_STONES : PySem.W.nsIn K mainGlobals "MOST_STONES" = some (some (.int (40) t_MOST_STONES))) (g_comb : PySem.W.nsIn K mainGlobals "comb" = some (some (.builtin "math.comb"))) (aC_Refused : PySem.W.nsIn K mainGlobals "Refused" = some (some (.ref C_Refused))) (aC_BadSize : PySem.W.nsIn K mainGlobals "BadSize" = some (some (.ref C_BadSize))) (aC_BadEnds : PySem.W.nsIn K mainGlobals "BadEnds" = some (some (.ref C_BadEnds))) (aC_BadRule : PySem.W.nsIn K mainGlobals "BadRule" = some (some (.ref C_BadRule))) (xL_Refused : K.lookup C_Refused = some (excClassObj x_Refused_nm x_Refused_q C_Refused x_Refused_N x_Refused_bs HandSPX.veTail true x_Refused_sn x_Refused_sub x_Refused_ab x_Refused_col x_Refused_dd x_Refused_k0 x_Refused_k1 x_Refused_k2 x_Refused_k3 x_Refused_k5 "ValueError.__new__")) (xsa_Refused : PySem.W.findIn K (.ref C_Refused) "__setattr__" = some (some (.builtin "object.__setattr__"))) (xga_Refused : PySem.W.findIn K (.ref C_Refused) "__getattribute__" = some (some (.builtin "BaseException.__getattribute__"))) (xgg_Refused : PySem.W.findIn K (.ref C_Refused) "__getattr__" = some none) (xnb_Refused : PySem.W.findIn K (.ref C_Refused) "what" = some none) (xin_Refused : PySem.W.findIn K (.ref C_Refused) "__init__" = some (some (.ref fI))) (xkc_Refused : PySem.W.keepIn K (.ref C_Refused) = true) (xL_BadSize : K.lookup C_BadSize = some (excClassObj x_BadSize_nm x_BadSize_q C_BadSize x_BadSize_N x_BadSize_bs (.ref C_Refused :: HandSPX.veTail) true x_BadSize_sn x_BadSize_sub x_BadSize_ab x_BadSize_col x_BadSize_dd x_BadSize_k0 x_BadSize_k1 x_BadSize_k2 x_BadSize_k3 x_BadSize_k5 "ValueError.__new__")) (xsa_BadSize : PySem.W.findIn K (.ref C_BadSize) "__setattr__" = some (some (.builtin "object.__setattr__"))) (xga_BadSize : PySem.W.findIn K (.ref C_BadSize) "__getattribute__" = some (some (.builtin "BaseException.__getattribute__"))) (xgg_BadSize : PySem.W.findIn K (.ref C_BadSize) "__getattr__" = some none) (xnb_BadSize : PySem.W.findIn K (.ref C_BadSize) "what" = some none) (xin_BadSize : PySem.W.findIn K (.ref C_BadSize) "__init__" = some (some (.ref fI))) (xkc_BadSize : PySem.W.keepIn K (.ref C_BadSize) = true) (xne_BadSize : C_BadSize ≠ C_Refused) (xL_BadEnds : K.lookup C_BadEnds = some (excClassObj x_BadEnds_nm x_BadEnds_q C_BadEnds x_BadEnds_N x_BadEnds_bs (.ref C_Refused :: HandSPX.veTail) true x_BadEnds_sn x_BadEnds_sub x_BadEnds_ab x_BadEnds_col x_BadEnds_dd x_BadEnds_k0 x_BadEnds_k1 x_BadEnds_k2 x_BadEnds_k3 x_BadEnds_k5 "ValueError.__new__")) (xsa_BadEnds : PySem.W.findIn K (.ref C_BadEnds) "__setattr__" = some (some (.builtin "object.__setattr__"))) (xga_BadEnds : PySem.W.findIn K (.ref C_BadEnds) "__getattribute__" = some (some (.builtin "BaseException.__getattribute__"))) (xgg_BadEnds : PySem.W.findIn K (.ref C_BadEnds) "__getattr__" = some none) (xnb_BadEnds : PySem.W.findIn K (.ref C_BadEnds) "what" = some none) (xin_BadEnds : PySem.W.findIn K (.ref C_BadEnds) "__init__" = some (some (.ref fI))) (xkc_BadEnds : PySem.W.keepIn K (.ref C_BadEnds) = true) (xne_BadEnds : C_BadEnds ≠ C_Refused) (xL_BadRule : K.lookup C_BadRule = some (excClassObj x_BadRule_nm x_BadRule_q C_BadRule x_BadRule_N x_BadRule_bs (.ref C_Refused :: HandSPX.veTail) true x_BadRule_sn x_BadRule_sub x_BadRule_ab x_BadRule_col x_BadRule_dd x_BadRule_k0 x_BadRule_k1 x_BadRule_k2 x_BadRule_k3 x_BadRule_k5 "ValueError.__new__")) (xsa_BadRule : PySem.W.findIn K (.ref C_BadRule) "__setattr__" = some (some (.builtin "object.__setattr__"))) (xga_BadRule : PySem.W.findIn K (.ref C_BadRule) "__getattribute__" = some (some (.builtin "BaseException.__getattribute__"))) (xgg_BadRule : PySem.W.findIn K (.ref C_BadRule) "__getattr__" = some none) (xnb_BadRule : PySem.W.findIn K (.ref C_BadRule) "what" = some none) (xin_BadRule : PySem.W.findIn K (.ref C_BadRule) "__init__" = some (some (.ref fI))) (xkc_BadRule : PySem.W.keepIn K (.ref C_BadRule) = true) (xne_BadRule : C_BadRule ≠ C_Refused) (r_t : PySem.W.typeIn K (.ref fI) = some (.type "function")) (r_l : K.lookup fI = some ⟨r_oc, r_od, .func (PySem.W.ksFn "__init__" "Refused.__init__" iA iB iS .none r_kV r_doc r_pm r_an (.ref cda) r_ct cc), r_osl⟩) (r_c : PySem.W.codeIn K (.ref cda) "Refused.__init__" = true) (r_lc : K.lookup cda = some ⟨r_ccl, r_cdd, .fields r_vs, r_ccs⟩) (r_f : r_vs[2]? = some (.str r_file r_tf)) (r_pf : ((l.prog.main.file : Str) == r_file) = true) (r_cell : K.lookup cc = some ⟨r_cl, r_cld, .cell (some (.ref C_Refused)), r_csl⟩) (r_sup : PySem.W.nsIn K mainGlobals "super" = some none) (r_opq : PySem.W.nsIn K cStatics "thirdparty.any" = some none) (r_top : (l.prog.main.scope.names.lookup ("super" : Str)).isSome = false) (xs_BadSize_Refused : PySem.W.subIn K (.ref C_BadSize) (.ref C_Refused) = some true) (xs_BadEnds_Refused : PySem.W.subIn K (.ref C_BadEnds) (.ref C_Refused) = some true) (xs_BadRule_Refused : PySem.W.subIn K (.ref C_BadRule) (.ref C_Refused) = some true) (xcn : PySem.W.specialIn K (.builtin "object.__class__") "__get__" = some (some (.builtin "getset_descriptor.__get__"))) (xct : PySem.W.takesIn K (.builtin "object.__class__") = some true) (xca_BadSize : PySem.W.findIn K (.ref C_BadSize) "__class__" = some (some (.builtin "object.__class__"))) (xcm_BadSize : PySem.W.mroIn K C_BadSize (.type "object") = some true) (xkv_BadSize : PySem.W.subIn K (.ref C_BadSize) (.type "ValueError") = some true) (xs_BadSize_BadEnds : PySem.W.subIn K (.ref C_BadSize) (.ref C_BadEnds) = some false) (xd_BadSize_BadEnds : C_BadSize ≠ C_BadEnds) (xs_BadSize_BadRule : PySem.W.subIn K (.ref C_BadSize) (.ref C_BadRule) = some false) (xd_BadSize_BadRule : C_BadSize ≠ C_BadRule) (xs_BadSize_BadSize : PySem.W.subIn K (.ref C_BadSize) (.ref C_BadSize) = some true) (xca_BadEnds : PySem.W.findIn K (.ref C_BadEnds) "__class__" = some (some (.builtin "object.__class__"))) (xcm_BadEnds : PySem.W.mroIn K C_BadEnds (.type "object") = some true) (xkv_BadEnds : PySem.W.subIn K (.ref C_BadEnds) (.type "ValueError") = some true) (xs_BadEnds_BadEnds : PySem.W.subIn K (.ref C_BadEnds) (.ref C_BadEnds) = some true) (xs_BadEnds_BadRule : PySem.W.subIn K (.ref C_BadEnds) (.ref C_BadRule) = some false) (xd_BadEnds_BadRule : C_BadEnds ≠ C_BadRule) (xs_BadEnds_BadSize : PySem.W.subIn K (.ref C_BadEnds) (.ref C_BadSize) = some false) (xd_BadEnds_BadSize : C_BadEnds ≠ C_BadSize) (xca_BadRule : PySem.W.findIn K (.ref C_BadRule) "__class__" = some (some (.builtin "object.__class__"))) (xcm_BadRule : PySem.W.mroIn K C_BadRule (.type "object") = some true) (xkv_BadRule : PySem.W.subIn K (.ref C_BadRule) (.type "ValueError") = some true) (xs_BadRule_BadEnds : PySem.W.subIn K (.ref C_BadRule) (.ref C_BadEnds) = some false) (xd_BadRule_BadEnds : C_BadRule ≠ C_BadEnds) (xs_BadRule_BadRule : PySem.W.subIn K (.ref C_BadRule) (.ref C_BadRule) = some true) (xs_BadRule_BadSize : PySem.W.subIn K (.ref C_BadRule) (.ref C_BadSize) = some false) (xd_BadRule_BadSize : C_BadRule ≠ C_BadSize) (a__law_pool : PySem.W.nsIn K mainGlobals "_law_pool" = some (some (.ref f__law_pool))) (l__law_pool : K.lookup f__law_pool = some ⟨oc__law_pool, od__law_pool, .func (PySem.W.fnOf "_law_pool" "_law_pool" (defArgs s__law_pool) (defBody s__law_pool) (defScope s__law_pool) .none kV__law_pool dc__law_pool pm__law_pool an__law_pool cd__law_pool ct__law_pool), sl__law_pool⟩) (d__law_pool : PySem.W.codeIn K cd__law_pool "_law_pool" = true) (e__law_pool : PySem.W.keepIn K (.ref f__law_pool) = true) (a__law_take : PySem.W.nsIn K mainGlobals "_law_take" = some (some (.ref f__law_take))) (l__law_take : K.lookup f__law_take = some ⟨oc__law_take, od__law_take, .func (PySem.W.fnOf "_law_take" "_law_take" (defArgs s__law_take) (defBody s__law_take) (defScope s__law_take) .none kV__law_take dc__law_take pm__law_take an__law_take cd__law_take ct__law_take), sl__law_take⟩) (d__law_take : PySem.W.codeIn K cd__law_take "_law_take" = true) (e__law_take : PySem.W.keepIn K (.ref f__law_take) = true) (a__law_one : PySem.W.nsIn K mainGlobals "_law_one" = some (some (.ref f__law_one))) (l__law_one : K.lookup f__law_one = some ⟨oc__law_one, od__law_one, .func (PySem.W.fnOf "_law_one" "_law_one" (defArgs s__law_one) (defBody s__law_one) (defScope s__law_one) .none kV__law_one dc__law_one pm__law_one an__law_one cd__law_one ct__law_one), sl__law_one⟩) (d__law_one : PySem.W.codeIn K cd__law_one "_law_one" = true) (e__law_one : PySem.W.keepIn K (.ref f__law_one) = true) (a_want_ends : PySem.W.nsIn K mainGlobals "want_ends" = some (some (.ref f_want_ends))) (l_want_ends : K.lookup f_want_ends = some ⟨oc_want_ends, od_want_ends, .func (PySem.W.fnOf "want_ends" "want_ends" (defArgs s_want_ends) (defBody s_want_ends) (defScope s_want_ends) .none kV_want_ends dc_want_ends pm_want_ends an_want_ends cd_want_ends ct_want_ends), sl_want_ends⟩) (d_want_ends : PySem.W.codeIn K cd_want_ends "want_ends" = true) (e_want_ends : PySem.W.keepIn K (.ref f_want_ends) = true) (a_want_rule : PySem.W.nsIn K mainGlobals "want_rule" = some (some (.ref f_want_rule))) (l_want_rule : K.lookup f_want_rule = some ⟨oc_want_rule, od_want_rule, .func (PySem.W.fnOf "want_rule" "want_rule" (defArgs s_want_rule) (defBody s_want_rule) (defScope s_want_rule) .none kV_want_rule dc_want_rule pm_want_rule an_want_rule cd_want_rule ct_want_rule), sl_want_rule⟩) (d_want_rule : PySem.W.codeIn K cd_want_rule "want_rule" = true) (e_want_rule : PySem.W.keepIn K (.ref f_want_rule) = true) (a_lets : PySem.W.nsIn K mainGlobals "lets" = some (some (.ref f_lets))) (l_lets : K.lookup f_lets = some ⟨oc_lets, od_lets, .func (PySem.W.fnOf "lets" "lets" (defArgs s_lets) (defBody s_lets) (defScope s_lets) .none kV_lets dc_lets pm_lets an_lets cd_lets ct_lets), sl_lets⟩) (d_lets : PySem.W.codeIn K cd_lets "lets" = true) (e_lets : PySem.W.keepIn K (.ref f_lets) = true) (a_ways : PySem.W.nsIn K mainGlobals "ways" = some (some (.ref f_ways))) (l_ways : K.lookup f_ways = some ⟨oc_ways, od_ways, .func (PySem.W.fnOf "ways" "ways" (defArgs s_ways) (defBody s_ways) (defScope s_ways) .none kV_ways dc_ways pm_ways an_ways cd_ways ct_ways), sl_ways⟩) (d_ways : PySem.W.codeIn K cd_ways "ways" = true) (e_ways : PySem.W.keepIn K (.ref f_ways) = true) (a_inner_counts : PySem.W.nsIn K mainGlobals "inner_counts" = some (some (.ref f_inner_counts))) (l_inner_counts : K.lookup f_inner_counts = some ⟨oc_inner_counts, od_inner_counts, .func (PySem.W.fnOf "inner_counts" "inner_counts" (defArgs s_inner_counts) (defBody s_inner_counts) (defScope s_inner_counts) .none kV_inner_counts dc_inner_counts pm_inner_counts an_inner_counts cd_inner_counts ct_inner_counts), sl_inner_counts⟩) (d_inner_counts : PySem.W.codeIn K cd_inner_counts "inner_counts" = true) (e_inner_counts : PySem.W.keepIn K (.ref f_inner_counts) = true) (a_end_counts : PySem.W.nsIn K mainGlobals "end_counts" = some (some (.ref f_end_counts))) (l_end_counts : K.lookup f_end_counts = some ⟨oc_end_counts, od_end_counts, .func (PySem.W.fnOf "end_counts" "end_counts" (defArgs s_end_counts) (defBody s_end_counts) (defScope s_end_counts) .none kV_end_counts dc_end_counts pm_end_counts an_end_counts cd_end_counts ct_end_counts), sl_end_counts⟩) (d_end_counts : PySem.W.codeIn K cd_end_counts "end_counts" = true) (e_end_counts : PySem.W.keepIn K (.ref f_end_counts) = true) (a_class_count : PySem.W.nsIn K mainGlobals "class_count" = some (some (.ref f_class_count))) (l_class_count : K.lookup f_class_count = some ⟨oc_class_count, od_class_count, .func (PySem.W.fnOf "class_count" "class_count" (defArgs s_class_count) (defBody s_class_count) (defScope s_class_count) .none (.ref D_class_count) dc_class_count pm_class_count an_class_count cd_class_count ct_class_count), sl_class_count⟩) (d_class_count : PySem.W.codeIn K cd_class_count "class_count" = true) (e_class_count : PySem.W.keepIn K (.ref f_class_count) = true) (w_class_count_ends_ : PySem.W.nsIn K D_class_count "ends" = some (some (.int 0 w_class_count_ends))) (w_class_count_rule_ : PySem.W.nsIn K D_class_count "rule" = some (some (.none))) (a__law_lengths : PySem.W.nsIn K mainGlobals "_law_lengths" = some (some (.ref f__law_lengths))) (l__law_lengths : K.lookup f__law_lengths = some ⟨oc__law_lengths, od__law_lengths, .func (PySem.W.fnOf "_law_lengths" "_law_lengths" (defArgs s__law_lengths) (defBody s__law_lengths) (defScope s__law_lengths) .none kV__law_lengths dc__law_lengths pm__law_lengths an__law_lengths cd__law_lengths ct__law_lengths), sl__law_lengths⟩) (d__law_lengths : PySem.W.codeIn K cd__law_lengths "_law_lengths" = true) (e__law_lengths : PySem.W.keepIn K (.ref f__law_lengths) = true) (a__law_word : PySem.W.nsIn K mainGlobals "_law_word" = some (some (.ref f__law_word))) (l__law_word : K.lookup f__law_word = some ⟨oc__law_word, od__law_word, .func (PySem.W.fnOf "_law_word" "_law_word" (defArgs s__law_word) (defBody s__law_word) (defScope s__law_word) .none kV__law_word dc__law_word pm__law_word an__law_word cd__law_word ct__law_word), sl__law_word⟩) (d__law_word : PySem.W.codeIn K cd__law_word "_law_word" = true) (e__law_word : PySem.W.keepIn K (.ref f__law_word) = true) (a__law_told : PySem.W.nsIn K mainGlobals "_law_told" = some (some (.ref f__law_told))) (l__law_told : K.lookup f__law_told = some ⟨oc__law_told, od__law_told, .func (PySem.W.fnOf "_law_told" "_law_told" (defArgs s__law_told) (defBody s__law_told) (defScope s__law_told) .none kV__law_told dc__law_told pm__law_told an__law_told cd__law_told ct__law_told), sl__law_told⟩) (d__law_told : PySem.W.codeIn K cd__law_told "_law_told" = true) (e__law_told : PySem.W.keepIn K (.ref f__law_told) = true) (a__law_refusals_right : PySem.W.nsIn K mainGlobals "_law_refusals_right" = some (some (.ref f__law_refusals_right))) (l__law_refusals_right : K.lookup f__law_refusals_right = some ⟨oc__law_refusals_right, od__law_refusals_right, .func (PySem.W.fnOf "_law_refusals_right" "_law_refusals_right" (defArgs s__law_refusals_right) (defBody s__law_refusals_right) (defScope s__law_refusals_right) .none kV__law_refusals_right dc__law_refusals_right pm__law_refusals_right an__law_refusals_right cd__law_refusals_right ct__law_refusals_right), sl__law_refusals_right⟩) (d__law_refusals_right : PySem.W.codeIn K cd__law_refusals_right "_law_refusals_right" = true) (e__law_refusals_right : PySem.W.keepIn K (.ref f__law_refusals_right) = true) (yr__law_refusals_right : cd__law_refusals_right = .ref (cA cd__law_refusals_right)) (yc__law_refusals_right : PySem.W.codeHdIn K (cA cd__law_refusals_right) (tabP K cd__law_refusals_right) = true) (yl__law_refusals_right : K.lookup (tabP K cd__law_refusals_right) = none) (yn__law_refusals_right : nmT (tabP K cd__law_refusals_right) = (("_law_refusals_right" : Str) ++ ".<locals>." ++ "<lambda>")) (a__law_product : PySem.W.nsIn K mainGlobals "_law_product" = some (some (.ref f__law_product))) (l__law_product : K.lookup f__law_product = some ⟨oc__law_product, od__law_product, .func (PySem.W.fnOf "_law_product" "_law_product" (defArgs s__law_product) (defBody s__law_product) (defScope s__law_product) .none kV__law_product dc__law_product pm__law_product an__law_product cd__law_product ct__law_product), sl__law_product⟩) (d__law_product : PySem.W.codeIn K cd__law_product "_law_product" = true) (e__law_product : PySem.W.keepIn K (.ref f__law_product) = true) (a_law : PySem.W.nsIn K mainGlobals "law" = some (some (.ref f_law))) (l_law : K.lookup f_law = some ⟨oc_law, od_law, .func (PySem.W.fnOf "law" "law" (defArgs s_law) (defBody s_law) (defScope s_law) .none kV_law dc_law pm_law an_law cd_law ct_law), sl_law⟩) (d_law : PySem.W.codeIn K cd_law "law" = true) (e_law : PySem.W.keepIn K (.ref f_law) = true) (tbh : ∀ P ∈ [tabP K cd__law_refusals_right], h.get? P = some (PySem.W.tabObj #[])) (lawT : ∀ ns : List Int, ns.length ≤ 63 → ∃ τ, F_law [some (.frl (ns.map D.int))] = .ok (.bl true, τ)) :
    LawT l w K 7 "_law_script" mg fa h := by
  have e := hfa.symm.trans (PySem.W.mg_of X G a_law)
  cases e
  have RC : RefC l.prog K C_Refused fI := ⟨⟨_, _, _, _, _, _, _, _, _, _, r_l, r_c, ⟨_, _, _, _, _, _, r_lc, r_f, r_pf⟩, _, _, _, r_cell⟩, ⟨_, by unfold PySem.W.clsIn; rw [xL_Refused] <;> rfl⟩, r_sup, r_opq, r_top⟩
  have RK_Refused : RefK K C_Refused C_Refused fI := ⟨⟨_, _, _, _, _, _, _, _, _, _, _, _, _, _, _, xL_Refused, .inl ⟨rfl, rfl⟩⟩, xsa_Refused, xga_Refused, xgg_Refused, xnb_Refused, xin_Refused, r_t, xkc_Refused⟩
  have RK_BadSize : RefK K C_Refused C_BadSize fI := ⟨⟨_, _, _, _, _, _, _, _, _, _, _, _, _, _, _, xL_BadSize, .inr ⟨xne_BadSize, rfl⟩⟩, xsa_BadSize, xga_BadSize, xgg_BadSize, xnb_BadSize, xin_BadSize, r_t, xkc_BadSize⟩
  have RK_BadEnds : RefK K C_Refused C_BadEnds fI := ⟨⟨_, _, _, _, _, _, _, _, _, _, _, _, _, _, _, xL_BadEnds, .inr ⟨xne_BadEnds, rfl⟩⟩, xsa_BadEnds, xga_BadEnds, xgg_BadEnds, xnb_BadEnds, xin_BadEnds, r_t, xkc_BadEnds⟩
  have RK_BadRule : RefK K C_Refused C_BadRule fI := ⟨⟨_, _, _, _, _, _, _, _, _, _, _, _, _, _, _, xL_BadRule, .inr ⟨xne_BadRule, rfl⟩⟩, xsa_BadRule, xga_BadRule, xgg_BadRule, xnb_BadRule, xin_BadRule, r_t, xkc_BadRule⟩
  have X_BadSize : FnEx l.prog K mg (GG.tb K (fun c => ([C_Refused, C_BadSize, C_BadEnds, C_BadRule] : List Addr).getD c 0) nm [tabP K cd__law_refusals_right]) "BadSize" 1 := ⟨C_Refused, fI, RC, RK_BadSize, PySem.W.mg_of X G aC_BadSize, PySem.W.mg_none_of X G r_sup⟩
  have X_BadEnds : FnEx l.prog K mg (GG.tb K (fun c => ([C_Refused, C_BadSize, C_BadEnds, C_BadRule] : List Addr).getD c 0) nm [tabP K cd__law_refusals_right]) "BadEnds" 2 := ⟨C_Refused, fI, RC, RK_BadEnds, PySem.W.mg_of X G aC_BadEnds, PySem.W.mg_none_of X G r_sup⟩
  have X_BadRule : FnEx l.prog K mg (GG.tb K (fun c => ([C_Refused, C_BadSize, C_BadEnds, C_BadRule] : List Addr).getD c 0) nm [tabP K cd__law_refusals_right]) "BadRule" 3 := ⟨C_Refused, fI, RC, RK_BadRule, PySem.W.mg_of X G aC_BadRule, PySem.W.mg_none_of X G r_sup⟩
  have XA : ∀ c ∈ kn, ∃ x, FnEx l.prog K mg (GG.tb K (fun c => ([C_Refused, C_BadSize, C_BadEnds, C_BadRule] : List Addr).getD c 0) nm [tabP K cd__law_refusals_right]) x c := fun c hc => by (rcases List.mem_cons.mp hc with e | hc; (subst e; exact ⟨_, X_BadSize⟩)); (rcases List.mem_cons.mp hc with e | hc; (subst e; exact ⟨_, X_BadEnds⟩)); (cases List.mem_singleton.mp hc; exact ⟨_, X_BadRule⟩)
  have XIK : ∀ c ∈ kn, ExI K ((GG.tb K (fun c => ([C_Refused, C_BadSize, C_BadEnds, C_BadRule] : List Addr).getD c 0) nm [tabP K cd__law_refusals_right]).cl c) := fun c hc => by (rcases List.mem_cons.mp hc with e | hc; (subst e; exact ⟨xca_BadSize, xcn, xct, xcm_BadSize⟩)); (rcases List.mem_cons.mp hc with e | hc; (subst e; exact ⟨xca_BadEnds, xcn, xct, xcm_BadEnds⟩)); (cases List.mem_singleton.mp hc; exact ⟨xca_BadRule, xcn, xct, xcm_BadRule⟩)
  have XKK : ∀ c ∈ kn, ∀ j ∈ ([2, 3, 1] : List Nat), PySem.W.kitOne K (.ref ((GG.tb K (fun c => ([C_Refused, C_BadSize, C_BadEnds, C_BadRule] : List Addr).getD c 0) nm [tabP K cd__law_refusals_right]).cl c)) (.ref ((GG.tb K (fun c => ([C_Refused, C_BadSize, C_BadEnds, C_BadRule] : List Addr).getD c 0) nm [tabP K cd__law_refusals_right]).cl j)) = some (sb c j) := fun c hc => by (rcases List.mem_cons.mp hc with e | hc; (subst e; (intro j hj; (rcases List.mem_cons.mp hj with e | hj; (subst e; exact kit_sub RK_BadEnds xs_BadSize_BadEnds (fun _ => xd_BadSize_BadEnds))); (rcases List.mem_cons.mp hj with e | hj; (subst e; exact kit_sub RK_BadRule xs_BadSize_BadRule (fun _ => xd_BadSize_BadRule))); (cases List.mem_singleton.mp hj; exact kit_sub RK_BadSize xs_BadSize_BadSize (fun z => nomatch z))))); (rcases List.mem_cons.mp hc with e | hc; (subst e; (intro j hj; (rcases List.mem_cons.mp hj with e | hj; (subst e; exact kit_sub RK_BadEnds xs_BadEnds_BadEnds (fun z => nomatch z))); (rcases List.mem_cons.mp hj with e | hj; (subst e; exact kit_sub RK_BadRule xs_BadEnds_BadRule (fun _ => xd_BadEnds_BadRule))); (cases List.mem_singleton.mp hj; exact kit_sub RK_BadSize xs_BadEnds_BadSize (fun _ => xd_BadEnds_BadSize))))); (cases List.mem_singleton.mp hc; (intro j hj; (rcases List.mem_cons.mp hj with e | hj; (subst e; exact kit_sub RK_BadEnds xs_BadRule_BadEnds (fun _ => xd_BadRule_BadEnds))); (rcases List.mem_cons.mp hj with e | hj; (subst e; exact kit_sub RK_BadRule xs_BadRule_BadRule (fun z => nomatch z))); (cases List.mem_singleton.mp hj; exact kit_sub RK_BadSize xs_BadRule_BadSize (fun _ => xd_BadRule_BadSize))))
  have XKV : ∀ c ∈ kn, PySem.W.kitOne K (.ref ((GG.tb K (fun c => ([C_Refused, C_BadSize, C_BadEnds, C_BadRule] : List Addr).getD c 0) nm [tabP K cd__law_refusals_right]).cl c)) (.type "ValueError") = some true := fun c hc => by (rcases List.mem_cons.mp hc with e | hc; (subst e; exact kit_ve xkv_BadSize)); (rcases List.mem_cons.mp hc with e | hc; (subst e; exact kit_ve xkv_BadEnds)); (cases List.mem_singleton.mp hc; exact kit_ve xkv_BadRule)
  have XM : ∀ c ∈ kn, ∀ j ∈ js, PySem.W.exmOne K (.ref ((GG.tb K (fun c => ([C_Refused, C_BadSize, C_BadEnds, C_BadRule] : List Addr).getD c 0) nm [tabP K cd__law_refusals_right]).cl c)) (.ref ((GG.tb K (fun c => ([C_Refused, C_BadSize, C_BadEnds, C_BadRule] : List Addr).getD c 0) nm [tabP K cd__law_refusals_right]).cl j)) = some (sb c j) := fun c hc j hj => by (rcases List.mem_cons.mp hc with e | hc; (subst e; (cases List.mem_singleton.mp hj; exact exm_sub RK_Refused xs_BadSize_Refused))); (rcases List.mem_cons.mp hc with e | hc; (subst e; (cases List.mem_singleton.mp hj; exact exm_sub RK_Refused xs_BadEnds_Refused))); (cases List.mem_singleton.mp hc; (cases List.mem_singleton.mp hj; exact exm_sub RK_Refused xs_BadRule_Refused))
  have T : Txt l.prog K (GG.tb K (fun c => ([C_Refused, C_BadSize, C_BadEnds, C_BadRule] : List Addr).getD c 0) nm [tabP K cd__law_refusals_right]) mg := ⟨PySem.W.mg_none_of X G n_enumerate, PySem.W.mg_none_of X G n_int, PySem.W.mg_none_of X G n_isinstance, PySem.W.mg_none_of X G n_len, PySem.W.mg_none_of X G n_list, PySem.W.mg_none_of X G n_max, PySem.W.mg_none_of X G n_range, PySem.W.mg_none_of X G n_repr, PySem.W.mg_none_of X G n_sorted, PySem.W.mg_none_of X G n_sum, PySem.W.mg_none_of X G n_tuple, ⟨_, PySem.W.mg_of X G c_BOTH_WALLS⟩, ⟨_, PySem.W.mg_of X G c_LEAST_LENGTH⟩, ⟨_, PySem.W.mg_of X G c_MOST_COUNTED⟩, ⟨_, PySem.W.mg_of X G c_MOST_STONES⟩, PySem.W.mg_of X G g_comb, X_BadSize, X_BadEnds, X_BadRule, PySem.W.mg_of X G aC_BadEnds, PySem.W.mg_of X G aC_BadRule, PySem.W.mg_of X G aC_BadSize, PySem.W.mg_of X G aC_Refused, XA, XM, XIK, XKK, XKV⟩
  have F__law_pool := fun_mk (st := s__law_pool) l__law_pool d__law_pool e__law_pool
  have F__law_take := fun_mk (st := s__law_take) l__law_take d__law_take e__law_take
  have F__law_one := fun_mk (st := s__law_one) l__law_one d__law_one e__law_one
  have F_want_ends := fun_mk (st := s_want_ends) l_want_ends d_want_ends e_want_ends
  have F_want_rule := fun_mk (st := s_want_rule) l_want_rule d_want_rule e_want_rule
  have F_lets := fun_mk (st := s_lets) l_lets d_lets e_lets
  have F_ways := fun_mk (st := s_ways) l_ways d_ways e_ways
  have F_inner_counts := fun_mk (st := s_inner_counts) l_inner_counts d_inner_counts e_inner_counts
  have F_end_counts := fun_mk (st := s_end_counts) l_end_counts d_end_counts e_end_counts
  have F_class_count : FnD K "class_count" "class_count" s_class_count [] [("ends", V.int 0), ("rule", V.non)] f_class_count (PySem.W.fnOf "class_count" "class_count" (defArgs s_class_count) (defBody s_class_count) (defScope s_class_count) .none (.ref D_class_count) dc_class_count pm_class_count an_class_count cd_class_count ct_class_count) := by
    refine ⟨⟨_, _, _, _, _, _, _, _, _, _, rfl, l_class_count, d_class_count, .inl ⟨rfl, rfl⟩, .inr ⟨D_class_count, rfl, fun q hq => ?_⟩⟩, e_class_count⟩
    rcases List.mem_cons.mp hq with e | hq
    · subst e; exact ⟨_, w_class_count_ends_, ⟨_, rfl⟩⟩
    · cases List.mem_singleton.mp hq; exact ⟨_, w_class_count_rule_, rfl⟩
  have F__law_lengths := fun_mk (st := s__law_lengths) l__law_lengths d__law_lengths e__law_lengths
  have F__law_word := fun_mk (st := s__law_word) l__law_word d__law_word e__law_word
  have F__law_told := fun_mk (st := s__law_told) l__law_told d__law_told e__law_told
  have F__law_refusals_right := fun_mk (st := s__law_refusals_right) l__law_refusals_right d__law_refusals_right e__law_refusals_right
  have F__law_product := fun_mk (st := s__law_product) l__law_product d__law_product e__law_product
  have F_law := fun_mk (st := s_law) l_law d_law e_law
  refine ⟨PySem.W.fnOf "law" "law" (defArgs s_law) (defBody s_law) (defScope s_law) .none kV_law dc_law pm_law an_law cd_law ct_law, [(cA cd__law_refusals_right, tabP K cd__law_refusals_right)], fun p hp => tbh p.2 (List.mem_map.mpr ⟨p, hp, rfl⟩), fun p hp => (by (cases List.mem_singleton.mp hp; exact yl__law_refusals_right)), fun p hp => (by (cases List.mem_singleton.mp hp; exact yc__law_refusals_right)), fun s v => .of_eq rfl, fun base _ _ TB => law_impT (F := K54.F_law) (cl := (fun c => ([C_Refused, C_BadSize, C_BadEnds, C_BadRule] : List Addr).getD c 0)) (nm := nm) (bs := [tabP K cd__law_refusals_right]) lawT ?_⟩
  have LB__law_refusals_right : LamB base mg [tabP K cd__law_refusals_right] (PySem.W.fnOf "_law_refusals_right" "_law_refusals_right" (defArgs s__law_refusals_right) (defBody s__law_refusals_right) (defScope s__law_refusals_right) .none kV__law_refusals_right dc__law_refusals_right pm__law_refusals_right an__law_refusals_right cd__law_refusals_right ct__law_refusals_right) (("_law_refusals_right" : Str) ++ ".<locals>." ++ "<lambda>") := ⟨cA cd__law_refusals_right, tabP K cd__law_refusals_right, yr__law_refusals_right, TB (cA cd__law_refusals_right, tabP K cd__law_refusals_right) (List.mem_cons_self), List.mem_cons_self, yn__law_refusals_right⟩
  have c__law_pool_ := core__law_pool (P := l.prog) (w := w) (base := base) (cl := (fun c => ([C_Refused, C_BadSize, C_BadEnds, C_BadRule] : List Addr).getD c 0)) (tbs := [tabP K cd__law_refusals_right]) T F__law_pool
  have h__law_pool := ok__law_pool (P := l.prog) (w := w) (base := base) (cl := (fun c => ([C_Refused, C_BadSize, C_BadEnds, C_BadRule] : List Addr).getD c 0)) (tbs := [tabP K cd__law_refusals_right]) T F__law_pool (PySem.W.mg_of X G a__law_pool)
  have c__law_take_ := core__law_take (P := l.prog) (w := w) (base := base) (cl := (fun c => ([C_Refused, C_BadSize, C_BadEnds, C_BadRule] : List Addr).getD c 0)) (tbs := [tabP K cd__law_refusals_right]) T F__law_take
  have h__law_take := ok__law_take (P := l.prog) (w := w) (base := base) (cl := (fun c => ([C_Refused, C_BadSize, C_BadEnds, C_BadRule] : List Addr).getD c 0)) (tbs := [tabP K cd__law_refusals_right]) T F__law_take (PySem.W.mg_of X G a__law_take)
  have c__law_one_ := core__law_one (P := l.prog) (w := w) (base := base) (cl := (fun c => ([C_Refused, C_BadSize, C_BadEnds, C_BadRule] : List Addr).getD c 0)) (tbs := [tabP K cd__law_refusals_right]) T F__law_one h__law_take
  have h__law_one := ok__law_one (P := l.prog) (w := w) (base := base) (cl := (fun c => ([C_Refused, C_BadSize, C_BadEnds, C_BadRule] : List Addr).getD c 0)) (tbs := [tabP K cd__law_refusals_right]) T F__law_one (PySem.W.mg_of X G a__law_one) h__law_take
  have c_want_ends_ := core_want_ends (P := l.prog) (w := w) (base := base) (cl := (fun c => ([C_Refused, C_BadSize, C_BadEnds, C_BadRule] : List Addr).getD c 0)) (tbs := [tabP K cd__law_refusals_right]) T F_want_ends
  have h_want_ends := ok_want_ends (P := l.prog) (w := w) (base := base) (cl := (fun c => ([C_Refused, C_BadSize, C_BadEnds, C_BadRule] : List Addr).getD c 0)) (tbs := [tabP K cd__law_refusals_right]) T F_want_ends (PySem.W.mg_of X G a_want_ends)
  have c_want_rule_ := core_want_rule (P := l.prog) (w := w) (base := base) (cl := (fun c => ([C_Refused, C_BadSize, C_BadEnds, C_BadRule] : List Addr).getD c 0)) (tbs := [tabP K cd__law_refusals_right]) T F_want_rule
  have h_want_rule := ok_want_rule (P := l.prog) (w := w) (base := base) (cl := (fun c => ([C_Refused, C_BadSize, C_BadEnds, C_BadRule] : List Addr).getD c 0)) (tbs := [tabP K cd__law_refusals_right]) T F_want_rule (PySem.W.mg_of X G a_want_rule)
  have c_lets_ := core_lets (P := l.prog) (w := w) (base := base) (cl := (fun c => ([C_Refused, C_BadSize, C_BadEnds, C_BadRule] : List Addr).getD c 0)) (tbs := [tabP K cd__law_refusals_right]) T F_lets
  have h_lets := ok_lets (P := l.prog) (w := w) (base := base) (cl := (fun c => ([C_Refused, C_BadSize, C_BadEnds, C_BadRule] : List Addr).getD c 0)) (tbs := [tabP K cd__law_refusals_right]) T F_lets (PySem.W.mg_of X G a_lets)
  have c_ways_ := core_ways (P := l.prog) (w := w) (base := base) (cl := (fun c => ([C_Refused, C_BadSize, C_BadEnds, C_BadRule] : List Addr).getD c 0)) (tbs := [tabP K cd__law_refusals_right]) T F_ways
  have h_ways := ok_ways (P := l.prog) (w := w) (base := base) (cl := (fun c => ([C_Refused, C_BadSize, C_BadEnds, C_BadRule] : List Addr).getD c 0)) (tbs := [tabP K cd__law_refusals_right]) T F_ways (PySem.W.mg_of X G a_ways)
  have c_inner_counts_ := core_inner_counts (P := l.prog) (w := w) (base := base) (cl := (fun c => ([C_Refused, C_BadSize, C_BadEnds, C_BadRule] : List Addr).getD c 0)) (tbs := [tabP K cd__law_refusals_right]) T F_inner_counts h_ways h_lets
  have h_inner_counts := ok_inner_counts (P := l.prog) (w := w) (base := base) (cl := (fun c => ([C_Refused, C_BadSize, C_BadEnds, C_BadRule] : List Addr).getD c 0)) (tbs := [tabP K cd__law_refusals_right]) T F_inner_counts (PySem.W.mg_of X G a_inner_counts) h_ways h_lets
  have c_end_counts_ := core_end_counts (P := l.prog) (w := w) (base := base) (cl := (fun c => ([C_Refused, C_BadSize, C_BadEnds, C_BadRule] : List Addr).getD c 0)) (tbs := [tabP K cd__law_refusals_right]) T F_end_counts h_ways
  have h_end_counts := ok_end_counts (P := l.prog) (w := w) (base := base) (cl := (fun c => ([C_Refused, C_BadSize, C_BadEnds, C_BadRule] : List Addr).getD c 0)) (tbs := [tabP K cd__law_refusals_right]) T F_end_counts (PySem.W.mg_of X G a_end_counts) h_ways
  have c_class_count_ := core_class_count (P := l.prog) (w := w) (base := base) (cl := (fun c => ([C_Refused, C_BadSize, C_BadEnds, C_BadRule] : List Addr).getD c 0)) (tbs := [tabP K cd__law_refusals_right]) T F_class_count h_want_ends h_want_rule h_inner_counts h_end_counts h_ways
  have k_class_count_1_ends_rule := kw_class_count_1_ends_rule (P := l.prog) (cl := (fun c => ([C_Refused, C_BadSize, C_BadEnds, C_BadRule] : List Addr).getD c 0)) (tbs := [tabP K cd__law_refusals_right]) F_class_count c_class_count_ (PySem.W.mg_of X G a_class_count)
  have k_class_count_1_rule_ends := kw_class_count_1_rule_ends (P := l.prog) (cl := (fun c => ([C_Refused, C_BadSize, C_BadEnds, C_BadRule] : List Addr).getD c 0)) (tbs := [tabP K cd__law_refusals_right]) F_class_count c_class_count_ (PySem.W.mg_of X G a_class_count)
  have k_class_count_1_ends := kw_class_count_1_ends (P := l.prog) (cl := (fun c => ([C_Refused, C_BadSize, C_BadEnds, C_BadRule] : List Addr).getD c 0)) (tbs := [tabP K cd__law_refusals_right]) F_class_count c_class_count_ (PySem.W.mg_of X G a_class_count)
  have c__law_lengths_ := core__law_lengths (P := l.prog) (w := w) (base := base) (cl := (fun c => ([C_Refused, C_BadSize, C_BadEnds, C_BadRule] : List Addr).getD c 0)) (tbs := [tabP K cd__law_refusals_right]) T F__law_lengths h__law_take
  have h__law_lengths := ok__law_lengths (P := l.prog) (w := w) (base := base) (cl := (fun c => ([C_Refused, C_BadSize, C_BadEnds, C_BadRule] : List Addr).getD c 0)) (tbs := [tabP K cd__law_refusals_right]) T F__law_lengths (PySem.W.mg_of X G a__law_lengths) h__law_take
  have w__law_word := wd__law_word (P := l.prog) (w := w) (base := base) (cl := (fun c => ([C_Refused, C_BadSize, C_BadEnds, C_BadRule] : List Addr).getD c 0)) (tbs := [tabP K cd__law_refusals_right]) T F__law_word (PySem.W.mg_of X G a__law_word)
  have d__law_told := td__law_told (P := l.prog) (w := w) (base := base) (cl := (fun c => ([C_Refused, C_BadSize, C_BadEnds, C_BadRule] : List Addr).getD c 0)) (tbs := [tabP K cd__law_refusals_right]) T F__law_told (PySem.W.mg_of X G a__law_told) w__law_word
  have c__law_refusals_right_ := core__law_refusals_right (P := l.prog) (w := w) (base := base) (cl := (fun c => ([C_Refused, C_BadSize, C_BadEnds, C_BadRule] : List Addr).getD c 0)) (tbs := [tabP K cd__law_refusals_right]) T F__law_refusals_right h__law_take h__law_lengths h__law_one k_class_count_1_ends_rule d__law_told LB__law_refusals_right
  have h__law_refusals_right := ok__law_refusals_right (P := l.prog) (w := w) (base := base) (cl := (fun c => ([C_Refused, C_BadSize, C_BadEnds, C_BadRule] : List Addr).getD c 0)) (tbs := [tabP K cd__law_refusals_right]) T F__law_refusals_right (PySem.W.mg_of X G a__law_refusals_right) h__law_take h__law_lengths h__law_one k_class_count_1_ends_rule d__law_told LB__law_refusals_right
  have c__law_product_ := core__law_product (P := l.prog) (w := w) (base := base) (cl := (fun c => ([C_Refused, C_BadSize, C_BadEnds, C_BadRule] : List Addr).getD c 0)) (tbs := [tabP K cd__law_refusals_right]) T F__law_product
  have h__law_product := ok__law_product (P := l.prog) (w := w) (base := base) (cl := (fun c => ([C_Refused, C_BadSize, C_BadEnds, C_BadRule] : List Addr).getD c 0)) (tbs := [tabP K cd__law_refusals_right]) T F__law_product (PySem.W.mg_of X G a__law_product)
  have c_law_ := core_law (P := l.prog) (w := w) (base := base) (cl := (fun c => ([C_Refused, C_BadSize, C_BadEnds, C_BadRule] : List Addr).getD c 0)) (tbs := [tabP K cd__law_refusals_right]) T F_law h__law_pool h__law_take h__law_one h__law_product h__law_lengths h__law_refusals_right k_class_count_1_rule_ends k_class_count_1_ends_rule k_class_count_1_ends
  exact c_law_
end K54
namespace K54
open PySem TV
theorem atI_nat {α : Type} {xs : List α} {i : Nat} : L2.atI xs (i : Int) = xs[i]? := by
  unfold L2.atI L2.ixN
  by_cases c : i < xs.length
  · rw [if_pos (by omega), if_pos (by omega)]
    simp
  · rw [if_pos (by omega), if_neg (by omega), List.getElem?_eq_none (by omega)]
    rfl
def dn (s : List Int) (x : Int) : Nat → Nat
  | 0 => 0
  | i + 1 => if s.getD i 0 < x then dn s x i else i + 1
def up (s : List Int) (x : Int) : Nat → Nat → Nat
  | 0, i => i
  | k + 1, i => if i + 1 < s.length ∧ s.getD (i + 1) 0 < x then up s x k (i + 1) else i
theorem dInts_map (s : List Int) : dInts (s.map D.int) = some s := by
  induction s with
  | nil => rfl
  | cons a s ih => simp [dInts, ih]
theorem ixOf_lt {x : Int} : ∀ {s : List Int}, x ∈ s → ixOf x s < s.length
  | y :: ys, h => by
    unfold ixOf
    split
    · simp
    · rename_i c
      rcases List.mem_cons.mp h with e | m
      · exact absurd e (by intro e; apply c; simp [e])
      · have := ixOf_lt m
        simp; omega
def lo (s : List Int) (x : Int) : Nat := dn s x (ixOf x s)
def hi (s : List Int) (x : Int) : Nat := up s x s.length (ixOf x s)
def A1 : TV.Env → MT → Prop := fun _ _ => True
theorem in_ints (e : Int) (as : List Int) : dInA false [.int e, .tup (as.map .int)] = some (.bl (decide (e ∈ as))) := by
  have h : TV.fls (as.map D.int) = some (as.map L2.V.int) := by
    induction as with
    | nil => rfl
    | cons a as ih => simp [TV.fls, D.fl, ih]
  have k : L2.inV (.int e) (as.map L2.V.int) = decide (e ∈ as) := by
    unfold L2.inV
    rw [Bool.eq_iff_iff]
    simp only [List.any_map, List.any_eq_true, decide_eq_true_eq, Function.comp]
    constructor
    · rintro ⟨a, m, q⟩
      have : a = e := by simpa [L2.eqV] using q
      rw [← this]; exact m
    · intro m
      exact ⟨e, m, by simp [L2.eqV]⟩
  simp [dInA, dInF, D.fl, dItems, h, k]
theorem in_2 (e a b : Int) : dInA false [.int e, .tup [.int a, .int b]] = some (.bl (decide (e = a ∨ e = b))) := by
  have := in_ints e [a, b]
  simpa using this
theorem dn_le {s : List Int} {x : Int} : ∀ i, dn s x i ≤ i
  | 0 => Nat.le_refl _
  | i + 1 => by
    unfold dn
    split
    · exact Nat.le_succ_of_le (dn_le i)
    · exact Nat.le_refl _
theorem up_lt {s : List Int} {x : Int} : ∀ k i, i < s.length → up s x k i < s.length
  | 0, i, h => h
  | k + 1, i, h => by
    unfold up
    split
    · rename_i c; exact up_lt k (i + 1) c.1
    · exact h
theorem up_ge {s : List Int} {x : Int} : ∀ k i, i ≤ up s x k i
  | 0, i => Nat.le_refl _
  | k + 1, i => by
    unfold up
    split
    · exact Nat.le_trans (Nat.le_succ i) (up_ge k (i + 1))
    · exact Nat.le_refl _
theorem lo_lt {s : List Int} {x : Int} (h : x ∈ s) : lo s x < s.length := Nat.lt_of_le_of_lt (dn_le _) (ixOf_lt h)
theorem hi_lt {s : List Int} {x : Int} (h : x ∈ s) : hi s x < s.length := up_lt _ _ (ixOf_lt h)
theorem lo_hi {s : List Int} {x : Int} : lo s x ≤ hi s x := Nat.le_trans (dn_le _) (up_ge _ _)
def opA (e : Int) (i : Nat) : Bool := decide (i = 0 ∧ e ≠ 1 ∧ e ≠ 3)
def opB (s : List Int) (e : Int) (j : Nat) : Bool := decide (¬ j + 1 < s.length ∧ e < 2)
def flag (s : List Int) (e x : Int) : Bool := opA e (lo s x) || opB s e (hi s x)
def head (s : List Int) (e x : Int) : Bool := decide (2 ≤ (hi s x : Int) - lo s x + 1) && !flag s e x
def heads (s : List Int) (e : Int) : List Int := (sortI s).filter (head s e)
theorem heads_mem {s : List Int} {e x : Int} (h : x ∈ heads s e) : x ∈ s := (sortI_perm s).mem_iff.mp (List.mem_filter.mp h).1
def rD : Option (List Int) → D
  | none => .non
  | some l => .tup (l.map .int)
theorem rD_own (r : Option (List Int)) : (rD r).own = false := by cases r <;> rfl
def letsB (r : Option (List Int)) (n : Int) : Bool := match r with
  | none => true
  | some l => decide (n ∈ l)
theorem e_lets (r : Option (List Int)) (n : Int) : F_lets [some (rD r), some (.int n)] = .ok (.bl (letsB r n), [some (rD r), some (.int n)]) := by
  unfold F_lets m_lets
  cases r with
  | none => simp [b_ok, b_stuck, b_exc, a_def, f_ok, f_exc, k_rt, k_nx, a_do, a_set, a_set2, a_drop, a_ret, a_unp, a_seq, k_seq, k_seqr, k_seqb, k_seqc, a_op, k_op, a_c, a_var, a_b, k_b, a_then, k_and1, k_and0, k_or1, k_or0, k_andV1, k_andV0, k_orV1, k_orV0, k_if1, k_if0, k_ifS1, k_ifS0, k_ifT1, k_ifT0, k_notV, k_not, a_yes, a_no, a_next, a_never, a_par, k_par, a_for, k_for, a_i1, k_i1, a_io, k_io, a_call, k_call, a_callP, k_callP, a_chain, k_chain, a_mut, k_mut, a_sto, k_sto, a_lc, k_lc, a_new, a_gN, a_gT, d_lt, d_le, d_gt, d_ge, d_intB, ev, rds, chk, pAny, pTup, pInt, takeA, wbE, permL, padE, outE, gNs, own_int, own_bl, own_str, own_non, own_tup, own_ins, own_frl, own_lst, own_dic, dTup, dLst, dAdd, dSub, dMulS, dDiv, dMod, dNeg, dInt, dAbs, dIsN, dNotN, D.isNon, dLen, dItems, dIx, dTru, D.tru, D.seq, fSetL, fAppend, sizeLine_eq, rg1, rg2, rg3, rg4, rg5, rg6, rg7, rg8, a_raise, k_raise, a_par3, k_par3, a_try, kt_ok, kt_exc, hdl, sEnd, dropN, inR, dRev, a_fz, k_fzL, k_fzF, k_fzT, a_fzS, k_fzS, a_parN, k_parN, allS, setNE, a_gTN, a_fzd, k_fzd, rD, letsB]
  | some l =>
    have i1 := in_ints n l
    simp [b_ok, b_stuck, b_exc, a_def, f_ok, f_exc, k_rt, k_nx, a_do, a_set, a_set2, a_drop, a_ret, a_unp, a_seq, k_seq, k_seqr, k_seqb, k_seqc, a_op, k_op, a_c, a_var, a_b, k_b, a_then, k_and1, k_and0, k_or1, k_or0, k_andV1, k_andV0, k_orV1, k_orV0, k_if1, k_if0, k_ifS1, k_ifS0, k_ifT1, k_ifT0, k_notV, k_not, a_yes, a_no, a_next, a_never, a_par, k_par, a_for, k_for, a_i1, k_i1, a_io, k_io, a_call, k_call, a_callP, k_callP, a_chain, k_chain, a_mut, k_mut, a_sto, k_sto, a_lc, k_lc, a_new, a_gN, a_gT, d_lt, d_le, d_gt, d_ge, d_intB, ev, rds, chk, pAny, pTup, pInt, takeA, wbE, permL, padE, outE, gNs, own_int, own_bl, own_str, own_non, own_tup, own_ins, own_frl, own_lst, own_dic, dTup, dLst, dAdd, dSub, dMulS, dDiv, dMod, dNeg, dInt, dAbs, dIsN, dNotN, D.isNon, dLen, dItems, dIx, dTru, D.tru, D.seq, fSetL, fAppend, sizeLine_eq, rg1, rg2, rg3, rg4, rg5, rg6, rg7, rg8, a_raise, k_raise, a_par3, k_par3, a_try, kt_ok, kt_exc, hdl, sEnd, dropN, inR, dRev, a_fz, k_fzL, k_fzF, k_fzT, a_fzS, k_fzS, a_parN, k_parN, allS, setNE, a_gTN, a_fzd, k_fzd, rD, letsB, i1]
def len (s : List Int) (x : Int) : Int := (hi s x : Int) - lo s x + 1
def free (s : List Int) (e : Int) (r : Option (List Int)) : List Int := (heads s e).filter fun x => letsB r (len s x)
theorem free_mem {s : List Int} {e : Int} {r : Option (List Int)} {x : Int} (h : x ∈ free s e r) : x ∈ s := heads_mem (List.mem_filter.mp h).1
end K54
namespace K54
open PySem TV
theorem for_inv {tg : D → TV.Env → R TV.Env} {b : MS} {I : Nat → TV.Env → Prop} : ∀ (ds : List D) (k : Nat) (ρ : TV.Env), (∀ j d ρ, ds[j]? = some d → I (k + j) ρ → ∃ ρ1 ρ2, tg d ρ = .ok ρ1 ∧ b ρ1 = .ok (.nx, ρ2) ∧ I (k + j + 1) ρ2) → I k ρ → ∃ ρ', forL tg b ds ρ = .ok (.nx, ρ') ∧ I (k + ds.length) ρ'
  | [], k, ρ, _, h => ⟨ρ, rfl, h⟩
  | d :: ds, k, ρ, st, h => by
    obtain ⟨ρ1, ρ2, e1, e2, h2⟩ := st 0 d ρ rfl h
    obtain ⟨ρ', e3, h3⟩ := for_inv ds (k + 1) ρ2 (fun j d' ρ0 e hI => by
      have := st (j + 1) d' ρ0 e (by rw [show k + (j + 1) = k + 1 + j by omega]; exact hI)
      rw [show k + (j + 1) + 1 = k + 1 + j + 1 by omega] at this
      exact this) h2
    refine ⟨ρ', ?_, by rw [List.length_cons, show k + (ds.length + 1) = k + 1 + ds.length by omega]; exact h3⟩
    unfold forL
    rw [e1]
    simp only [b_ok]
    rw [e2]
    exact e3
abbrev src (a b : Int) : D := .lst [.int a, .int b]
def Src (a b : Int) : Prop := 0 ≤ a ∧ 0 ≤ b ∧ b < 2147483647
theorem small_log {n : Int} (h1 : 0 < n) (h2 : n ≤ 1000000000000000000000000) : n.natAbs.log2 < 9000 := by
  have h3 : n.natAbs.log2 < 100 := (Nat.log2_lt (by omega)).mpr (by omega)
  omega
theorem at0 {α : Type} {x : α} {xs : List α} : L2.atI (x :: xs) 0 = some x := by
  have := atI_nat (xs := x :: xs) (i := 0)
  simpa using this
theorem at1 {α : Type} {x y : α} {xs : List α} : L2.atI (x :: y :: xs) 1 = some y := by
  have := atI_nat (xs := x :: y :: xs) (i := 1)
  simpa using this
theorem ix0 : L2.ixN 2 0 = some 0 := by decide
theorem ix1 : L2.ixN 2 1 = some 1 := by decide
theorem e_take (a b top : Int) (h : Src a b) (h1 : 0 < top) (h2 : top ≤ 100000000000000000000) : ∃ a' b' t, Src a' b' ∧ 0 ≤ t ∧ t < top ∧ F__law_take [some (src a b), some (.int top)] = .ok (.int t, [some (src a' b'), some (.int top)]) := by
  have l1 := small_log h1 (by omega)
  have l2 : (32 : Int).natAbs.log2 < 9000 := small_log (by decide) (by decide)
  have l3 : Nat.log2 32 < 9000 := l2
  obtain ⟨g1, g2, g3⟩ := h
  unfold F__law_take m__law_take
  by_cases c : 0 < a
  · refine ⟨a / top, b, a % top, ⟨Int.ediv_nonneg g1 (by omega), g2, g3⟩, Int.emod_nonneg _ (by omega), Int.emod_lt_of_pos _ h1, ?_⟩
    simp [b_ok, b_stuck, b_exc, a_def, f_ok, f_exc, k_rt, k_nx, a_do, a_set, a_set2, a_drop, a_ret, a_unp, a_seq, k_seq, k_seqr, k_seqb, k_seqc, a_op, k_op, a_c, a_var, a_b, k_b, a_then, k_and1, k_and0, k_or1, k_or0, k_andV1, k_andV0, k_orV1, k_orV0, k_if1, k_if0, k_ifS1, k_ifS0, k_ifT1, k_ifT0, k_notV, k_not, a_yes, a_no, a_next, a_never, a_par, k_par, a_for, k_for, a_i1, k_i1, a_io, k_io, a_call, k_call, a_callP, k_callP, a_chain, k_chain, a_mut, k_mut, a_sto, k_sto, a_lc, k_lc, a_new, a_gN, a_gT, d_lt, d_le, d_gt, d_ge, d_intB, ev, rds, chk, pAny, pTup, pInt, takeA, wbE, permL, padE, outE, gNs, own_int, own_bl, own_str, own_non, own_tup, own_ins, own_frl, own_lst, own_dic, dTup, dLst, dAdd, dSub, dMulS, dDiv, dMod, dNeg, dInt, dAbs, dIsN, dNotN, D.isNon, dLen, dItems, dIx, dTru, D.tru, D.seq, fSetL, fAppend, sizeLine_eq, rg1, rg2, rg3, rg4, rg5, rg6, rg7, rg8, a_raise, k_raise, a_par3, k_par3, a_try, kt_ok, kt_exc, hdl, sEnd, dropN, inR, dRev, a_fz, k_fzL, k_fzF, k_fzT, a_fzS, k_fzS, a_parN, k_parN, allS, setNE, a_gTN, a_fzd, k_fzd, at0, at1, ix0, ix1, c, h1, l1, L2.CDivW]
  · refine ⟨a, (b * 39373 + 7) % 2147483647, _, ⟨g1, Int.emod_nonneg _ (by decide), Int.emod_lt_of_pos _ (by decide)⟩, Int.emod_nonneg (((b * 39373 + 7) % 2147483647 * ((b * 39373 + 7) % 2147483647)) % 2147483629 / 32) (by omega), Int.emod_lt_of_pos _ h1, ?_⟩
    have k1 : (b * 39373 + 7) % 2147483647 < 18446744073709551616 := Int.lt_trans (Int.emod_lt_of_pos _ (by decide)) (by decide)
    have k2 : -18446744073709551616 < (b * 39373 + 7) % 2147483647 := Int.lt_of_lt_of_le (by decide) (Int.emod_nonneg _ (by decide))
    simp [b_ok, b_stuck, b_exc, a_def, f_ok, f_exc, k_rt, k_nx, a_do, a_set, a_set2, a_drop, a_ret, a_unp, a_seq, k_seq, k_seqr, k_seqb, k_seqc, a_op, k_op, a_c, a_var, a_b, k_b, a_then, k_and1, k_and0, k_or1, k_or0, k_andV1, k_andV0, k_orV1, k_orV0, k_if1, k_if0, k_ifS1, k_ifS0, k_ifT1, k_ifT0, k_notV, k_not, a_yes, a_no, a_next, a_never, a_par, k_par, a_for, k_for, a_i1, k_i1, a_io, k_io, a_call, k_call, a_callP, k_callP, a_chain, k_chain, a_mut, k_mut, a_sto, k_sto, a_lc, k_lc, a_new, a_gN, a_gT, d_lt, d_le, d_gt, d_ge, d_intB, ev, rds, chk, pAny, pTup, pInt, takeA, wbE, permL, padE, outE, gNs, own_int, own_bl, own_str, own_non, own_tup, own_ins, own_frl, own_lst, own_dic, dTup, dLst, dAdd, dSub, dMulS, dDiv, dMod, dNeg, dInt, dAbs, dIsN, dNotN, D.isNon, dLen, dItems, dIx, dTru, D.tru, D.seq, fSetL, fAppend, sizeLine_eq, rg1, rg2, rg3, rg4, rg5, rg6, rg7, rg8, a_raise, k_raise, a_par3, k_par3, a_try, kt_ok, kt_exc, hdl, sEnd, dropN, inR, dRev, a_fz, k_fzL, k_fzF, k_fzT, a_fzS, k_fzS, a_parN, k_parN, allS, setNE, a_gTN, a_fzd, k_fzd, at0, at1, ix0, ix1, c, h1, l1, l2, l3, L2.CDivW, k1, k2]
theorem e_one (a b : Int) (xs : List Int) (h : Src a b) (h1 : xs ≠ []) (h2 : xs.length ≤ 1000) : ∃ a' b' x, Src a' b' ∧ x ∈ xs ∧ F__law_one [some (src a b), some (.lst (xs.map .int))] = .ok (.int x, [some (src a' b'), some (.lst (xs.map .int))]) := by
  have hp : 0 < (xs.length : Int) := by
    cases xs with
    | nil => exact absurd rfl h1
    | cons => simp
  obtain ⟨a', b', t, hs, t1, t2, e⟩ := e_take a b xs.length h hp (by omega)
  obtain ⟨n, rfl⟩ : ∃ n : Nat, t = n := ⟨t.toNat, by omega⟩
  have hn : n < xs.length := by omega
  refine ⟨a', b', xs[n], hs, List.getElem_mem hn, ?_⟩
  unfold F__law_one m__law_one
  simp [b_ok, b_stuck, b_exc, a_def, f_ok, f_exc, k_rt, k_nx, a_do, a_set, a_set2, a_drop, a_ret, a_unp, a_seq, k_seq, k_seqr, k_seqb, k_seqc, a_op, k_op, a_c, a_var, a_b, k_b, a_then, k_and1, k_and0, k_or1, k_or0, k_andV1, k_andV0, k_orV1, k_orV0, k_if1, k_if0, k_ifS1, k_ifS0, k_ifT1, k_ifT0, k_notV, k_not, a_yes, a_no, a_next, a_never, a_par, k_par, a_for, k_for, a_i1, k_i1, a_io, k_io, a_call, k_call, a_callP, k_callP, a_chain, k_chain, a_mut, k_mut, a_sto, k_sto, a_lc, k_lc, a_new, a_gN, a_gT, d_lt, d_le, d_gt, d_ge, d_intB, ev, rds, chk, pAny, pTup, pInt, takeA, wbE, permL, padE, outE, gNs, own_int, own_bl, own_str, own_non, own_tup, own_ins, own_frl, own_lst, own_dic, dTup, dLst, dAdd, dSub, dMulS, dDiv, dMod, dNeg, dInt, dAbs, dIsN, dNotN, D.isNon, dLen, dItems, dIx, dTru, D.tru, D.seq, fSetL, fAppend, sizeLine_eq, rg1, rg2, rg3, rg4, rg5, rg6, rg7, rg8, a_raise, k_raise, a_par3, k_par3, a_try, kt_ok, kt_exc, hdl, sEnd, dropN, inR, dRev, a_fz, k_fzL, k_fzF, k_fzT, a_fzS, k_fzS, a_parN, k_parN, allS, setNE, a_gTN, a_fzd, k_fzd, e, atI_nat, List.getElem?_eq_getElem, hn]
theorem d_eq {x y : Int} : dEq [.int x, .int y] = some (.bl (decide (x = y))) := by
  have h : ((x == y) = decide (x = y)) := by by_cases c : x = y <;> simp [c]
  simp [dEq, dEqB, D.pd, SeqAt.shaped, PyData.eqv, PyData.canLay0, PyData.depth, h]
def okR (r : Option (List Int)) : Prop := ∀ l, r = some l → l.Pairwise (· < ·) ∧ ∀ n ∈ l, 2 ≤ n ∧ n ≤ 40
end K54
namespace K54
open PySem TV
def okS (s : List Int) : Prop := s.Nodup ∧ 1 ≤ s.length ∧ s.length ≤ 40 ∧ ∀ x ∈ s, -1000000000000000 < x ∧ x < 1000000000000000
theorem range_1 (n : Nat) (h : n ≤ 1000) : dR1 [.int n] = some (dRng 0 n) := by
  have e : dR1 [.int n] = if -(2 ^ 62) ≤ (n : Int) ∧ (n : Int) < 2 ^ 62 then some (dRng 0 (n : Int).toNat) else none := rfl
  rw [e, if_pos ⟨by omega, by omega⟩]
  simp
theorem range_2 (m n : Nat) (h : n ≤ 1000) (h2 : m ≤ 1000) : dR2 [.int m, .int n] = some (dRng m (n - m)) := by
  have e : dR2 [.int m, .int n] = if -(2 ^ 62) ≤ (m : Int) ∧ (m : Int) < 2 ^ 62 ∧ -(2 ^ 62) ≤ (n : Int) ∧ (n : Int) < 2 ^ 62 then some (dRng m ((n : Int) - m).toNat) else none := rfl
  rw [e, if_pos ⟨by omega, by omega, by omega, by omega⟩]
  have : ((n : Int) - m).toNat = n - m := by omega
  rw [this]
theorem p6 : dPow [.int 10, .int 6] = some (.int 1000000) := by
  have h : L2.CPow 10 6 := by unfold L2.CPow; decide
  show (if L2.CPow 10 6 then some (D.int (10 ^ (6 : Int).toNat)) else none) = _
  rw [if_pos h]
  rfl
theorem p9 : dPow [.int 10, .int 9] = some (.int 1000000000) := by
  have h : L2.CPow 10 9 := by unfold L2.CPow; decide
  show (if L2.CPow 10 9 then some (D.int (10 ^ (9 : Int).toNat)) else none) = _
  rw [if_pos h]
  rfl
theorem op_run {g : List D → Option D} {os : List Opd} {ρ ρ1 : TV.Env} {ds : List D} {ps : List (Option D)} {z : D} (h1 : ev os ρ = .ok (ps, ρ1)) (h3 : rds os ps ρ1 = some ds) (h4 : g ds = some z) : mOp os g ρ = .ok (z, ρ1) := by
  rw [a_op, h1, b_ok, k_op, h3]
  simp only [Option.bind]
  rw [h4]
theorem q6 (ρ : TV.Env) : mOp [.tmp (mC (.int 10)) pAny, .tmp (mC (.int 6)) pAny] dPow ρ = .ok (.int 1000000, ρ) := op_run (ps := [some (.int 10), some (.int 6)]) (ds := [.int 10, .int 6]) rfl rfl p6
theorem q9 (ρ : TV.Env) : mOp [.tmp (mC (.int 10)) pAny, .tmp (mC (.int 9)) pAny] dPow ρ = .ok (.int 1000000000, ρ) := op_run (ps := [some (.int 10), some (.int 9)]) (ds := [.int 10, .int 9]) rfl rfl p9
def poolT : MS := mSeq (mSet 3 (mOp [.tmp (mOp [.var 2 pAny] dInt) pAny, .tmp (mOp [.tmp (mOp [.tmp (mOp [.tmp (mC (.int 1)) pAny] dNeg) pAny, .var 2 pAny] dSub) pAny] dInt) pAny] dMax2)) (mSeq (mSet 4 (mOp [.tmp (mOp [.tmp (mOp [.tmp (mOp [.tmp (mOp [.tmp (mOp [.tmp (mOp [.tmp (mOp [.var 3 pAny] dInt) pAny, .tmp (mC (.int 2147483629)) pAny] dMod) pAny, .tmp (mOp [.tmp (mOp [.tmp (mC (.int 7919)) pAny, .var 1 pAny] dMulS) pAny, .var 1 pAny] dMulS) pAny] dAdd) pAny, .tmp (mOp [.tmp (mC (.int 31)) pAny, .var 1 pAny] dMulS) pAny] dAdd) pAny, .tmp (mC (.int 17)) pAny] dAdd) pAny, .tmp (mC (.int 48271)) pAny] dMulS) pAny] dInt) pAny, .tmp (mC (.int 2147483647)) pAny] dMod)) (mDo (mOp [.tmp (mOp [.var 3 pAny, .tmp (mOp [.tmp (mOp [.var 3 pAny, .tmp (mOp [.tmp (mC (.int 10)) pAny, .tmp (mC (.int 18)) pAny] dPow) pAny] dGe) pAny] dInt) pAny] dMulS) pAny, .var 4 pAny] dLst) kRet))
theorem p18 : dPow [.int 10, .int 18] = some (.int 1000000000000000000) := by
  have h : L2.CPow 10 18 := by unfold L2.CPow; decide
  show (if L2.CPow 10 18 then some (D.int (10 ^ (18 : Int).toNat)) else none) = _
  rw [if_pos h]
  rfl
theorem q18 (ρ : TV.Env) : mOp [.tmp (mC (.int 10)) pAny, .tmp (mC (.int 18)) pAny] dPow ρ = .ok (.int 1000000000000000000, ρ) := op_run (ps := [some (.int 10), some (.int 18)]) (ds := [.int 10, .int 18]) rfl rfl p18
def bigOf (c : Int) : Int := if -1 - c > c then -1 - c else c
theorem bigOf_nn (c : Int) : 0 ≤ bigOf c := by
  unfold bigOf
  split <;> omega
theorem max_big (c : Int) : dMax2 [.int c, .int (-1 - c)] = some (.int (bigOf c)) := rfl
def mixOf (c k : Int) : Int := ((bigOf c % 2147483629 + 7919 * k * k + 31 * k + 17) * 48271) % 2147483647
def firstOf (c : Int) : Int := bigOf c * (if 1000000000000000000 ≤ bigOf c then 1 else 0)
theorem pool_src (c k : Int) : Src (firstOf c) (mixOf c k) := by
  refine ⟨?_, Int.emod_nonneg _ (by decide), Int.emod_lt_of_pos _ (by decide)⟩
  unfold firstOf
  have := bigOf_nn c
  split
  · omega
  · omega
theorem pool_end (S : D) (k c : Int) (h1 : 0 ≤ k) (h2 : k ≤ 3) (hS : S.own = false) : poolT [some S, some (.int k), some (.int c), none, none] = .ok (.rt (src (firstOf c) (mixOf c k)), [some S, some (.int k), some (.int c), some (.int (bigOf c)), some (.int (mixOf c k))]) := by
  have k1 : -18446744073709551616 < k := by omega
  have k2 : k < 18446744073709551616 := by omega
  have neg1 : (-1 : Int) - c = -1 - c := rfl
  by_cases c1 : 1000000000000000000 ≤ bigOf c
  · have e1 : firstOf c = bigOf c := by simp [firstOf, c1]
    unfold poolT
    simp [b_ok, b_stuck, b_exc, a_def, f_ok, f_exc, k_rt, k_nx, a_do, a_set, a_set2, a_drop, a_ret, a_unp, a_seq, k_seq, k_seqr, k_seqb, k_seqc, a_op, k_op, a_c, a_var, a_b, k_b, a_then, k_and1, k_and0, k_or1, k_or0, k_andV1, k_andV0, k_orV1, k_orV0, k_if1, k_if0, k_ifS1, k_ifS0, k_ifT1, k_ifT0, k_notV, k_not, a_yes, a_no, a_next, a_never, a_par, k_par, a_for, k_for, a_i1, k_i1, a_io, k_io, a_call, k_call, a_callP, k_callP, a_chain, k_chain, a_mut, k_mut, a_sto, k_sto, a_lc, k_lc, a_new, a_gN, a_gT, d_lt, d_le, d_gt, d_ge, d_intB, ev, rds, chk, pAny, pTup, pInt, takeA, wbE, permL, padE, outE, gNs, own_int, own_bl, own_str, own_non, own_tup, own_ins, own_frl, own_lst, own_dic, dTup, dLst, dAdd, dSub, dMulS, dDiv, dMod, dNeg, dInt, dAbs, dIsN, dNotN, D.isNon, dLen, dItems, dIx, dTru, D.tru, D.seq, fSetL, fAppend, sizeLine_eq, rg1, rg2, rg3, rg4, rg5, rg6, rg7, rg8, a_raise, k_raise, a_par3, k_par3, a_try, kt_ok, kt_exc, hdl, sEnd, dropN, inR, dRev, a_fz, k_fzL, k_fzF, k_fzT, a_fzS, k_fzS, a_parN, k_parN, allS, setNE, a_gTN, a_fzd, k_fzd, ↓q18, max_big, k1, k2, c1, e1, mixOf]
  · have e1 : firstOf c = 0 := by simp [firstOf, c1]
    unfold poolT
    simp [b_ok, b_stuck, b_exc, a_def, f_ok, f_exc, k_rt, k_nx, a_do, a_set, a_set2, a_drop, a_ret, a_unp, a_seq, k_seq, k_seqr, k_seqb, k_seqc, a_op, k_op, a_c, a_var, a_b, k_b, a_then, k_and1, k_and0, k_or1, k_or0, k_andV1, k_andV0, k_orV1, k_orV0, k_if1, k_if0, k_ifS1, k_ifS0, k_ifT1, k_ifT0, k_notV, k_not, a_yes, a_no, a_next, a_never, a_par, k_par, a_for, k_for, a_i1, k_i1, a_io, k_io, a_call, k_call, a_callP, k_callP, a_chain, k_chain, a_mut, k_mut, a_sto, k_sto, a_lc, k_lc, a_new, a_gN, a_gT, d_lt, d_le, d_gt, d_ge, d_intB, ev, rds, chk, pAny, pTup, pInt, takeA, wbE, permL, padE, outE, gNs, own_int, own_bl, own_str, own_non, own_tup, own_ins, own_frl, own_lst, own_dic, dTup, dLst, dAdd, dSub, dMulS, dDiv, dMod, dNeg, dInt, dAbs, dIsN, dNotN, D.isNon, dLen, dItems, dIx, dTru, D.tru, D.seq, fSetL, fAppend, sizeLine_eq, rg1, rg2, rg3, rg4, rg5, rg6, rg7, rg8, a_raise, k_raise, a_par3, k_par3, a_try, kt_ok, kt_exc, hdl, sEnd, dropN, inR, dRev, a_fz, k_fzL, k_fzF, k_fzT, a_fzS, k_fzS, a_parN, k_parN, allS, setNE, a_gTN, a_fzd, k_fzd, ↓q18, max_big, k1, k2, c1, e1, mixOf]
theorem pool_is : m__law_pool = mSeq (mSet 2 (mC (.int 0))) (mSeq (mIfS (mB (mOp [.var 1 pAny, .tmp (mOp [.var 0 pAny] dLen) pAny] dLt)) (mSet 2 (mOp [.var 0 pAny, .var 1 pAny] dIx)) (mIfS (mB (mOp [.var 0 pAny] dTru)) (mSet 2 (mOp [.var 0 pAny, .tmp (mC (.int 0)) pAny] dIx)) (mNext))) poolT) := rfl
theorem e_lpool (ns : List Int) (k : Nat) (hk : k ≤ 3) : ∃ a b, Src a b ∧ F__law_pool [some (.frl (ns.map .int)), some (.int k)] = .ok (src a b, [some (.frl (ns.map .int)), some (.int k)]) := by
  have go := fun c => pool_end (.frl (ns.map .int)) k c (by omega) (by omega) rfl
  by_cases c1 : k < ns.length
  · refine ⟨_, _, pool_src ns[k] k, ?_⟩
    have c2 : (k : Int) < ns.length := by omega
    unfold F__law_pool
    rw [pool_is]
    simp [b_ok, b_stuck, b_exc, a_def, f_ok, f_exc, k_rt, k_nx, a_do, a_set, a_set2, a_drop, a_ret, a_unp, a_seq, k_seq, k_seqr, k_seqb, k_seqc, a_op, k_op, a_c, a_var, a_b, k_b, a_then, k_and1, k_and0, k_or1, k_or0, k_andV1, k_andV0, k_orV1, k_orV0, k_if1, k_if0, k_ifS1, k_ifS0, k_ifT1, k_ifT0, k_notV, k_not, a_yes, a_no, a_next, a_never, a_par, k_par, a_for, k_for, a_i1, k_i1, a_io, k_io, a_call, k_call, a_callP, k_callP, a_chain, k_chain, a_mut, k_mut, a_sto, k_sto, a_lc, k_lc, a_new, a_gN, a_gT, d_lt, d_le, d_gt, d_ge, d_intB, ev, rds, chk, pAny, pTup, pInt, takeA, wbE, permL, padE, outE, gNs, own_int, own_bl, own_str, own_non, own_tup, own_ins, own_frl, own_lst, own_dic, dTup, dLst, dAdd, dSub, dMulS, dDiv, dMod, dNeg, dInt, dAbs, dIsN, dNotN, D.isNon, dLen, dItems, dIx, dTru, D.tru, D.seq, fSetL, fAppend, sizeLine_eq, rg1, rg2, rg3, rg4, rg5, rg6, rg7, rg8, a_raise, k_raise, a_par3, k_par3, a_try, kt_ok, kt_exc, hdl, sEnd, dropN, inR, dRev, a_fz, k_fzL, k_fzF, k_fzT, a_fzS, k_fzS, a_parN, k_parN, allS, setNE, a_gTN, a_fzd, k_fzd, c2, atI_nat, List.getElem?_eq_getElem, c1, go]
  · have c2 : ¬ (k : Int) < ns.length := by omega
    cases ns with
    | nil =>
      refine ⟨_, _, pool_src 0 k, ?_⟩
      unfold F__law_pool
      rw [pool_is]
      have c3 : ¬ (k : Int) < 0 := by omega
      simp [b_ok, b_stuck, b_exc, a_def, f_ok, f_exc, k_rt, k_nx, a_do, a_set, a_set2, a_drop, a_ret, a_unp, a_seq, k_seq, k_seqr, k_seqb, k_seqc, a_op, k_op, a_c, a_var, a_b, k_b, a_then, k_and1, k_and0, k_or1, k_or0, k_andV1, k_andV0, k_orV1, k_orV0, k_if1, k_if0, k_ifS1, k_ifS0, k_ifT1, k_ifT0, k_notV, k_not, a_yes, a_no, a_next, a_never, a_par, k_par, a_for, k_for, a_i1, k_i1, a_io, k_io, a_call, k_call, a_callP, k_callP, a_chain, k_chain, a_mut, k_mut, a_sto, k_sto, a_lc, k_lc, a_new, a_gN, a_gT, d_lt, d_le, d_gt, d_ge, d_intB, ev, rds, chk, pAny, pTup, pInt, takeA, wbE, permL, padE, outE, gNs, own_int, own_bl, own_str, own_non, own_tup, own_ins, own_frl, own_lst, own_dic, dTup, dLst, dAdd, dSub, dMulS, dDiv, dMod, dNeg, dInt, dAbs, dIsN, dNotN, D.isNon, dLen, dItems, dIx, dTru, D.tru, D.seq, fSetL, fAppend, sizeLine_eq, rg1, rg2, rg3, rg4, rg5, rg6, rg7, rg8, a_raise, k_raise, a_par3, k_par3, a_try, kt_ok, kt_exc, hdl, sEnd, dropN, inR, dRev, a_fz, k_fzL, k_fzF, k_fzT, a_fzS, k_fzS, a_parN, k_parN, allS, setNE, a_gTN, a_fzd, k_fzd, c3] at go ⊢
      simp [b_ok, b_stuck, b_exc, a_def, f_ok, f_exc, k_rt, k_nx, a_do, a_set, a_set2, a_drop, a_ret, a_unp, a_seq, k_seq, k_seqr, k_seqb, k_seqc, a_op, k_op, a_c, a_var, a_b, k_b, a_then, k_and1, k_and0, k_or1, k_or0, k_andV1, k_andV0, k_orV1, k_orV0, k_if1, k_if0, k_ifS1, k_ifS0, k_ifT1, k_ifT0, k_notV, k_not, a_yes, a_no, a_next, a_never, a_par, k_par, a_for, k_for, a_i1, k_i1, a_io, k_io, a_call, k_call, a_callP, k_callP, a_chain, k_chain, a_mut, k_mut, a_sto, k_sto, a_lc, k_lc, a_new, a_gN, a_gT, d_lt, d_le, d_gt, d_ge, d_intB, ev, rds, chk, pAny, pTup, pInt, takeA, wbE, permL, padE, outE, gNs, own_int, own_bl, own_str, own_non, own_tup, own_ins, own_frl, own_lst, own_dic, dTup, dLst, dAdd, dSub, dMulS, dDiv, dMod, dNeg, dInt, dAbs, dIsN, dNotN, D.isNon, dLen, dItems, dIx, dTru, D.tru, D.seq, fSetL, fAppend, sizeLine_eq, rg1, rg2, rg3, rg4, rg5, rg6, rg7, rg8, a_raise, k_raise, a_par3, k_par3, a_try, kt_ok, kt_exc, hdl, sEnd, dropN, inR, dRev, a_fz, k_fzL, k_fzF, k_fzT, a_fzS, k_fzS, a_parN, k_parN, allS, setNE, a_gTN, a_fzd, k_fzd, c3, go]
    | cons n ns =>
      refine ⟨_, _, pool_src n k, ?_⟩
      unfold F__law_pool
      rw [pool_is]
      simp only [List.map_cons, List.length_cons] at go c2 ⊢
      have c4 : ¬ (k : Int) < ns.length + 1 := by omega
      simp [b_ok, b_stuck, b_exc, a_def, f_ok, f_exc, k_rt, k_nx, a_do, a_set, a_set2, a_drop, a_ret, a_unp, a_seq, k_seq, k_seqr, k_seqb, k_seqc, a_op, k_op, a_c, a_var, a_b, k_b, a_then, k_and1, k_and0, k_or1, k_or0, k_andV1, k_andV0, k_orV1, k_orV0, k_if1, k_if0, k_ifS1, k_ifS0, k_ifT1, k_ifT0, k_notV, k_not, a_yes, a_no, a_next, a_never, a_par, k_par, a_for, k_for, a_i1, k_i1, a_io, k_io, a_call, k_call, a_callP, k_callP, a_chain, k_chain, a_mut, k_mut, a_sto, k_sto, a_lc, k_lc, a_new, a_gN, a_gT, d_lt, d_le, d_gt, d_ge, d_intB, ev, rds, chk, pAny, pTup, pInt, takeA, wbE, permL, padE, outE, gNs, own_int, own_bl, own_str, own_non, own_tup, own_ins, own_frl, own_lst, own_dic, dTup, dLst, dAdd, dSub, dMulS, dDiv, dMod, dNeg, dInt, dAbs, dIsN, dNotN, D.isNon, dLen, dItems, dIx, dTru, D.tru, D.seq, fSetL, fAppend, sizeLine_eq, rg1, rg2, rg3, rg4, rg5, rg6, rg7, rg8, a_raise, k_raise, a_par3, k_par3, a_try, kt_ok, kt_exc, hdl, sEnd, dropN, inR, dRev, a_fz, k_fzL, k_fzF, k_fzT, a_fzS, k_fzS, a_parN, k_parN, allS, setNE, a_gTN, a_fzd, k_fzd, c4, at0, go]
theorem e_want_ends (e : Int) (h1 : 0 ≤ e) (h2 : e ≤ 3) : F_want_ends [some (.int e)] = .ok (.non, [some (.int e)]) := by
  unfold F_want_ends m_want_ends
  simp [b_ok, b_stuck, b_exc, a_def, f_ok, f_exc, k_rt, k_nx, a_do, a_set, a_set2, a_drop, a_ret, a_unp, a_seq, k_seq, k_seqr, k_seqb, k_seqc, a_op, k_op, a_c, a_var, a_b, k_b, a_then, k_and1, k_and0, k_or1, k_or0, k_andV1, k_andV0, k_orV1, k_orV0, k_if1, k_if0, k_ifS1, k_ifS0, k_ifT1, k_ifT0, k_notV, k_not, a_yes, a_no, a_next, a_never, a_par, k_par, a_for, k_for, a_i1, k_i1, a_io, k_io, a_call, k_call, a_callP, k_callP, a_chain, k_chain, a_mut, k_mut, a_sto, k_sto, a_lc, k_lc, a_new, a_gN, a_gT, d_lt, d_le, d_gt, d_ge, d_intB, ev, rds, chk, pAny, pTup, pInt, takeA, wbE, permL, padE, outE, gNs, own_int, own_bl, own_str, own_non, own_tup, own_ins, own_frl, own_lst, own_dic, dTup, dLst, dAdd, dSub, dMulS, dDiv, dMod, dNeg, dInt, dAbs, dIsN, dNotN, D.isNon, dLen, dItems, dIx, dTru, D.tru, D.seq, fSetL, fAppend, sizeLine_eq, rg1, rg2, rg3, rg4, rg5, rg6, rg7, rg8, a_raise, k_raise, a_par3, k_par3, a_try, kt_ok, kt_exc, hdl, sEnd, dropN, inR, dRev, a_fz, k_fzL, k_fzF, k_fzT, a_fzS, k_fzS, a_parN, k_parN, allS, setNE, a_gTN, a_fzd, k_fzd, h1, h2]
theorem e_want_rule (r : Option (List Int)) (h : okR r) : F_want_rule [some (rD r)] = .ok (.non, [some (rD r)]) := by
  cases r with
  | none =>
    unfold F_want_rule m_want_rule
    simp [b_ok, b_stuck, b_exc, a_def, f_ok, f_exc, k_rt, k_nx, a_do, a_set, a_set2, a_drop, a_ret, a_unp, a_seq, k_seq, k_seqr, k_seqb, k_seqc, a_op, k_op, a_c, a_var, a_b, k_b, a_then, k_and1, k_and0, k_or1, k_or0, k_andV1, k_andV0, k_orV1, k_orV0, k_if1, k_if0, k_ifS1, k_ifS0, k_ifT1, k_ifT0, k_notV, k_not, a_yes, a_no, a_next, a_never, a_par, k_par, a_for, k_for, a_i1, k_i1, a_io, k_io, a_call, k_call, a_callP, k_callP, a_chain, k_chain, a_mut, k_mut, a_sto, k_sto, a_lc, k_lc, a_new, a_gN, a_gT, d_lt, d_le, d_gt, d_ge, d_intB, ev, rds, chk, pAny, pTup, pInt, takeA, wbE, permL, padE, outE, gNs, own_int, own_bl, own_str, own_non, own_tup, own_ins, own_frl, own_lst, own_dic, dTup, dLst, dAdd, dSub, dMulS, dDiv, dMod, dNeg, dInt, dAbs, dIsN, dNotN, D.isNon, dLen, dItems, dIx, dTru, D.tru, D.seq, fSetL, fAppend, sizeLine_eq, rg1, rg2, rg3, rg4, rg5, rg6, rg7, rg8, a_raise, k_raise, a_par3, k_par3, a_try, kt_ok, kt_exc, hdl, sEnd, dropN, inR, dRev, a_fz, k_fzL, k_fzF, k_fzT, a_fzS, k_fzS, a_parN, k_parN, allS, setNE, a_gTN, a_fzd, k_fzd, rD, dEnum, enD, forL]
  | some l =>
    obtain ⟨sd, bd⟩ := h l rfl
    let I : Nat → TV.Env → Prop := fun k ρ => ∃ (b : Int) (o2 o3 : Option D), (b = if k = 0 then 1 else l.getD (k - 1) 0) ∧ ρ = [some (.tup (l.map .int)), some (.int b), o2, o3]
    have run := for_inv (tg := gT [2, 3]) (b := b_want_rule_1)
      (I := I) (enD 0 (l.map D.int)) 0 [some (.tup (l.map .int)), some (.int 1), none, none] (fun j d ρ hd hI => ?_) ⟨1, none, none, rfl, rfl⟩
    · obtain ⟨ρ', e1, b, o3, o4, _, rfl⟩ := run
      unfold F_want_rule m_want_rule
      simp [b_ok, b_stuck, b_exc, a_def, f_ok, f_exc, k_rt, k_nx, a_do, a_set, a_set2, a_drop, a_ret, a_unp, a_seq, k_seq, k_seqr, k_seqb, k_seqc, a_op, k_op, a_c, a_var, a_b, k_b, a_then, k_and1, k_and0, k_or1, k_or0, k_andV1, k_andV0, k_orV1, k_orV0, k_if1, k_if0, k_ifS1, k_ifS0, k_ifT1, k_ifT0, k_notV, k_not, a_yes, a_no, a_next, a_never, a_par, k_par, a_for, k_for, a_i1, k_i1, a_io, k_io, a_call, k_call, a_callP, k_callP, a_chain, k_chain, a_mut, k_mut, a_sto, k_sto, a_lc, k_lc, a_new, a_gN, a_gT, d_lt, d_le, d_gt, d_ge, d_intB, ev, rds, chk, pAny, pTup, pInt, takeA, wbE, permL, padE, outE, gNs, own_int, own_bl, own_str, own_non, own_tup, own_ins, own_frl, own_lst, own_dic, dTup, dLst, dAdd, dSub, dMulS, dDiv, dMod, dNeg, dInt, dAbs, dIsN, dNotN, D.isNon, dLen, dItems, dIx, dTru, D.tru, D.seq, fSetL, fAppend, sizeLine_eq, rg1, rg2, rg3, rg4, rg5, rg6, rg7, rg8, a_raise, k_raise, a_par3, k_par3, a_try, kt_ok, kt_exc, hdl, sEnd, dropN, inR, dRev, a_fz, k_fzL, k_fzF, k_fzT, a_fzS, k_fzS, a_parN, k_parN, allS, setNE, a_gTN, a_fzd, k_fzd, rD, dEnum, ↓e1]
    · obtain ⟨b, o3, o4, eb, rfl⟩ := hI
      obtain ⟨x, hx, rfl⟩ := enD_get hd
      rw [List.getElem?_map, Option.map_eq_some_iff] at hx
      obtain ⟨x, hx, rfl⟩ := hx
      obtain ⟨hj, ex⟩ := List.getElem?_eq_some_iff.mp hx
      have b1 := bd x (by rw [← ex]; exact List.getElem_mem hj)
      have b2 : b < x := by
        simp only [Nat.zero_add] at eb
        by_cases c : j = 0
        · rw [eb, if_pos c]; omega
        · rw [eb, if_neg c, List.getD_eq_getElem?_getD, List.getElem?_eq_getElem (by omega), ← ex]
          exact List.pairwise_iff_getElem.mp sd (j - 1) j (by omega) hj (by omega)
      refine ⟨_, [some (.tup (l.map .int)), some (.int x), some (.int ((0 + j : Nat))), some (.int x)], rfl, ?_, x, _, _, ?_, rfl⟩
      · simp [b_want_rule_1, b_ok, b_stuck, b_exc, a_def, f_ok, f_exc, k_rt, k_nx, a_do, a_set, a_set2, a_drop, a_ret, a_unp, a_seq, k_seq, k_seqr, k_seqb, k_seqc, a_op, k_op, a_c, a_var, a_b, k_b, a_then, k_and1, k_and0, k_or1, k_or0, k_andV1, k_andV0, k_orV1, k_orV0, k_if1, k_if0, k_ifS1, k_ifS0, k_ifT1, k_ifT0, k_notV, k_not, a_yes, a_no, a_next, a_never, a_par, k_par, a_for, k_for, a_i1, k_i1, a_io, k_io, a_call, k_call, a_callP, k_callP, a_chain, k_chain, a_mut, k_mut, a_sto, k_sto, a_lc, k_lc, a_new, a_gN, a_gT, d_lt, d_le, d_gt, d_ge, d_intB, ev, rds, chk, pAny, pTup, pInt, takeA, wbE, permL, padE, outE, gNs, own_int, own_bl, own_str, own_non, own_tup, own_ins, own_frl, own_lst, own_dic, dTup, dLst, dAdd, dSub, dMulS, dDiv, dMod, dNeg, dInt, dAbs, dIsN, dNotN, D.isNon, dLen, dItems, dIx, dTru, D.tru, D.seq, fSetL, fAppend, sizeLine_eq, rg1, rg2, rg3, rg4, rg5, rg6, rg7, rg8, a_raise, k_raise, a_par3, k_par3, a_try, kt_ok, kt_exc, hdl, sEnd, dropN, inR, dRev, a_fz, k_fzL, k_fzF, k_fzT, a_fzS, k_fzS, a_parN, k_parN, allS, setNE, a_gTN, a_fzd, k_fzd, b1.2, b2]
      · simp [hx]
end K54
namespace K54
open PySem TV
def mxO : List Int → Option Int
  | [] => none
  | n :: ns => some (ns.foldl max n)
def mnO : List Int → Option Int
  | [] => none
  | n :: ns => some (ns.foldl min n)
def oD : Option Int → D
  | none => .non
  | some x => .int x
theorem foldl_max : ∀ (l : List Int) (n : Int), (l.foldl max n = n ∨ l.foldl max n ∈ l) ∧ n ≤ l.foldl max n ∧ ∀ y ∈ l, y ≤ l.foldl max n
  | [], n => ⟨.inl rfl, Int.le_refl _, fun y h => nomatch h⟩
  | a :: l, n => by
    obtain ⟨h1, h2, h3⟩ := foldl_max l (max n a)
    rw [List.foldl_cons]
    refine ⟨?_, by omega, fun y hy => ?_⟩
    · rcases h1 with h1 | h1
      · rw [h1]
        by_cases c : a ≤ n
        · left; omega
        · right; rw [show max n a = a by omega]; exact List.mem_cons_self
      · exact .inr (List.mem_cons_of_mem _ h1)
    · rcases List.mem_cons.mp hy with e | m
      · subst e; omega
      · exact h3 y m
theorem mxO_spec {l : List Int} {m : Int} (h : mxO l = some m) : m ∈ l ∧ ∀ y ∈ l, y ≤ m := by
  cases l with
  | nil => cases h
  | cons n ns =>
    cases h
    obtain ⟨h1, h2, h3⟩ := foldl_max ns n
    refine ⟨?_, fun y hy => ?_⟩
    · rcases h1 with h1 | h1
      · rw [h1]; exact List.mem_cons_self
      · exact List.mem_cons_of_mem _ h1
    · rcases List.mem_cons.mp hy with e | m
      · rw [e]; exact h2
      · exact h3 y m
theorem mxO_none {l : List Int} (h : mxO l = none) : l = [] := by
  cases l with
  | nil => rfl
  | cons => cases h
theorem foldl_min : ∀ (l : List Int) (n : Int), (l.foldl min n = n ∨ l.foldl min n ∈ l) ∧ l.foldl min n ≤ n ∧ ∀ y ∈ l, l.foldl min n ≤ y
  | [], n => ⟨.inl rfl, Int.le_refl _, fun y h => nomatch h⟩
  | a :: l, n => by
    obtain ⟨h1, h2, h3⟩ := foldl_min l (min n a)
    rw [List.foldl_cons]
    refine ⟨?_, by omega, fun y hy => ?_⟩
    · rcases h1 with h1 | h1
      · rw [h1]
        by_cases c : n ≤ a
        · left; omega
        · right; rw [show min n a = a by omega]; exact List.mem_cons_self
      · exact .inr (List.mem_cons_of_mem _ h1)
    · rcases List.mem_cons.mp hy with e | m
      · subst e; omega
      · exact h3 y m
theorem mnO_spec {l : List Int} {m : Int} (h : mnO l = some m) : m ∈ l ∧ ∀ y ∈ l, m ≤ y := by
  cases l with
  | nil => cases h
  | cons n ns =>
    cases h
    obtain ⟨h1, h2, h3⟩ := foldl_min ns n
    refine ⟨?_, fun y hy => ?_⟩
    · rcases h1 with h1 | h1
      · rw [h1]; exact List.mem_cons_self
      · exact List.mem_cons_of_mem _ h1
    · rcases List.mem_cons.mp hy with e | m
      · rw [e]; exact h2
      · exact h3 y m
theorem mnO_none {l : List Int} (h : mnO l = none) : l = [] := by
  cases l with
  | nil => rfl
  | cons => cases h
def cut (s : List Int) (i j : Nat) : List Int := (s.drop i).take (j - i)
def kidA (s : List Int) (x : Int) : Option Int := mxO (cut s (lo s x) (ixOf x s))
def kidB (s : List Int) (x : Int) : Option Int := mxO (cut s (ixOf x s + 1) (hi s x + 1))
def aI (s : List Int) (i : Nat) : Option Int := if 0 < i then some (s.getD (i - 1) 0) else none
def bI (s : List Int) (j : Nat) : Option Int := if j + 1 < s.length then some (s.getD (j + 1) 0) else none
def clo (s : List Int) (x : Int) : List Int := (aI s (lo s x)).toList ++ (bI s (hi s x)).toList
def par (s : List Int) (x : Int) : Option Int := mnO (clo s x)
def ahO (s : List Int) (x : Int) : Option Int → Bool
  | none => true
  | some y => decide (ixOf x s < ixOf y s)
def kids (s : List Int) (x : Int) : List Int := (kidA s x).toList ++ (kidB s x).toList
def gcO (s : List Int) (x : Int) : Option Int := mxO (kids s x)
def sns (s : List Int) (x : Int) : Bool := (match gcO s x with | some c => decide (ixOf c s < ixOf x s) | none => false) != ahO s x (par s x)
theorem clo_mem {s : List Int} {x : Int} (hx : x ∈ s) : ∀ z ∈ clo s x, z ∈ s := fun z hz => by
  unfold clo aI bI at hz
  rcases List.mem_append.mp hz with h | h
  · split at h
    · rename_i c
      have e : z = s.getD (lo s x - 1) 0 := by simpa using h
      have l : lo s x - 1 < s.length := by have := lo_lt hx; omega
      rw [e, List.getD_eq_getElem?_getD, List.getElem?_eq_getElem l]
      exact List.getElem_mem l
    · cases h
  · split at h
    · rename_i c
      have e : z = s.getD (hi s x + 1) 0 := by simpa using h
      rw [e, List.getD_eq_getElem?_getD, List.getElem?_eq_getElem c]
      exact List.getElem_mem c
    · cases h
theorem par_mem {s : List Int} {x : Int} (hx : x ∈ s) : ∀ z, par s x = some z → z ∈ s := fun z h => clo_mem hx z (mnO_spec h).1
theorem cut_mem {s : List Int} {i j : Nat} {z : Int} (h : z ∈ cut s i j) : z ∈ s := List.mem_of_mem_drop (List.mem_of_mem_take h)
theorem cut_len (s : List Int) (i j : Nat) (h1 : i ≤ j) (h2 : j ≤ s.length) : (cut s i j).length = j - i := by
  unfold cut
  rw [List.length_take, List.length_drop]
  omega
theorem kids_mem {s : List Int} {x : Int} : ∀ z ∈ kids s x, z ∈ s := fun z hz => by
  unfold kids kidA kidB at hz
  rcases List.mem_append.mp hz with h | h
  · exact cut_mem (mxO_spec (by simpa using h)).1
  · exact cut_mem (mxO_spec (by simpa using h)).1
theorem lo_le_ix (s : List Int) (x : Int) : lo s x ≤ ixOf x s := dn_le _
theorem ix_le_hi (s : List Int) (x : Int) : ixOf x s ≤ hi s x := up_ge _ _
theorem kids_ne {s : List Int} {x : Int} (hx : x ∈ s) (h : lo s x < hi s x) : ∃ c, gcO s x = some c ∧ c ∈ s := by
  have h1 := lo_le_ix s x
  have h2 := ix_le_hi s x
  have h3 := hi_lt hx
  have ne : kids s x ≠ [] := by
    intro e
    unfold kids at e
    rw [List.append_eq_nil_iff] at e
    have a1 : kidA s x = none := by cases h : kidA s x <;> simp_all
    have a2 : kidB s x = none := by cases h : kidB s x <;> simp_all
    have b1 := congrArg List.length (mxO_none a1)
    have b2 := congrArg List.length (mxO_none a2)
    rw [cut_len _ _ _ h1 (by omega)] at b1
    rw [cut_len _ _ _ (by omega) (by omega)] at b2
    simp at b1 b2
    omega
  cases hc : gcO s x with
  | none => exact absurd (mxO_none hc) ne
  | some c => exact ⟨c, rfl, kids_mem c (mxO_spec hc).1⟩
theorem pds_ints : ∀ l : List Int, D.pds (l.map D.int) = some (l.map PyData.int)
  | [] => rfl
  | a :: l => by simp [D.pds, D.pd, pds_ints l]
theorem lay_ints : ∀ l : List Int, PyData.canLayAll0 (l.map PyData.int) = true ∧ PyData.depthAll (l.map PyData.int) = 0
  | [] => ⟨rfl, rfl⟩
  | a :: l => by simp [PyData.canLayAll0, PyData.canLay0, PyData.depthAll, PyData.depth, lay_ints l]
theorem shp_list (l : List Int) : SeqAt.shaped (.list (l.map .int)) = true := by
  unfold SeqAt.shaped
  simp [PyData.canLay0, lay_ints, PyData.depth]
theorem ne_nil (l : List Int) : dNe [.lst (l.map .int), .lst []] = some (.bl (!l.isEmpty)) := by
  cases l with
  | nil => exact d_neS (d := .lst []) rfl
  | cons n ns => exact (d_neU (p := .list ((n :: ns).map .int)) (q := .list []) (by simp only [D.pd, pds_ints]; rfl) rfl (shp_list _) (shp_list []) rfl).1
theorem ix_inj {s : List Int} (nd : s.Nodup) {i : Nat} (h : i < s.length) : ixOf s[i] s = i := by
  rw [ixOf_eq]
  exact nd.idxOf_getElem i h
theorem cut_ix {s : List Int} (nd : s.Nodup) {i j : Nat} {z : Int} (h : z ∈ cut s i j) : i ≤ ixOf z s ∧ ixOf z s < j := by
  unfold cut at h
  obtain ⟨k, hk, e⟩ := List.mem_iff_getElem.mp h
  rw [List.length_take, List.length_drop] at hk
  rw [List.getElem_take, List.getElem_drop] at e
  have := ix_inj nd (i := i + k) (by omega)
  rw [e] at this
  omega
end K54
namespace K54
open PySem TV
theorem okS.ne {s : List Int} (h : okS s) : s ≠ [] := fun e => by
  have := h.2.1
  rw [e] at this
  simp at this
theorem dn_spec {s : List Int} {x : Int} : ∀ i, (∀ k, dn s x i ≤ k → k < i → s.getD k 0 < x) ∧ (0 < dn s x i → ¬ s.getD (dn s x i - 1) 0 < x)
  | 0 => ⟨fun k _ h => absurd h (Nat.not_lt_zero _), fun h => absurd h (Nat.lt_irrefl 0)⟩
  | i + 1 => by
    have ih := dn_spec (s := s) (x := x) i
    unfold dn
    split
    · rename_i c
      refine ⟨fun k h1 h2 => ?_, ih.2⟩
      rcases Nat.lt_or_ge k i with h | h
      · exact ih.1 k h1 h
      · obtain rfl : k = i := by omega
        exact c
    · rename_i c
      exact ⟨fun k h1 h2 => absurd h2 (by omega), fun _ => by simpa using c⟩
theorem up_spec {s : List Int} {x : Int} : ∀ n i, i < s.length → s.length ≤ i + n + 1 → (∀ k, i < k → k ≤ up s x n i → s.getD k 0 < x) ∧ (up s x n i + 1 < s.length → ¬ s.getD (up s x n i + 1) 0 < x)
  | 0, i, h1, h2 => by
    unfold up
    exact ⟨fun k h3 h4 => absurd h3 (by omega), fun h => absurd h (by omega)⟩
  | n + 1, i, h1, h2 => by
    unfold up
    split
    · rename_i c
      have ih := up_spec (s := s) (x := x) n (i + 1) c.1 (by omega)
      refine ⟨fun k h3 h4 => ?_, ih.2⟩
      rcases Nat.lt_or_ge (i + 1) k with h | h
      · exact ih.1 k h h4
      · obtain rfl : k = i + 1 := by omega
        exact c.2
    · rename_i c
      exact ⟨fun k h3 h4 => absurd h3 (by omega), fun h z => c ⟨h, z⟩⟩
theorem ixOf_get {x : Int} : ∀ {s : List Int}, x ∈ s → s[ixOf x s]? = some x
  | [], h => nomatch h
  | y :: ys, h => by
    unfold ixOf
    split
    · rename_i c; simp [c]
    · rename_i c
      rcases List.mem_cons.mp h with e | h
      · exact absurd e.symm c
      · simpa using ixOf_get h
theorem ix_at {s : List Int} {x : Int} (hx : x ∈ s) : s.getD (ixOf x s) 0 = x := by
  rw [List.getD_eq_getElem?_getD, ixOf_get hx]
  rfl
theorem ix_first {s : List Int} {x : Int} {k : Nat} (h : k < ixOf x s) : s.getD k 0 ≠ x := by
  induction s generalizing k with
  | nil => exact absurd h (Nat.not_lt_zero _)
  | cons y ys ih =>
    unfold ixOf at h
    split at h
    · exact absurd h (Nat.not_lt_zero _)
    · rename_i c
      cases k with
      | zero => simpa using c
      | succ k => exact ih (k := k) (by omega)
def held (s : List Int) (e : Int) (r : Option (List Int)) : List Int := (heads s e).filter fun x => !letsB r (len s x)
theorem ix_after {s : List Int} {x : Int} (nd : s.Nodup) {k : Nat} (h : ixOf x s < k) (hk : k < s.length) : s.getD k 0 ≠ x := fun z => by
  have := ix_inj nd hk
  rw [List.getD_eq_getElem?_getD, List.getElem?_eq_getElem hk] at z
  simp at z
  rw [z] at this
  omega
theorem nice_int (n : Nat) (x : Int) : D.nice n (.int x) = true := by cases n <;> rfl
end K54
namespace K54
open PySem TV
def SpA (f : Nat → Int) (p i : Nat) : Prop := i ≤ p ∧ (∀ k, i ≤ k → k < p → f k < f p) ∧ (0 < i → f p < f (i - 1))
def SpB (f : Nat → Int) (n p j : Nat) : Prop := p ≤ j ∧ j < n ∧ (∀ k, p < k → k ≤ j → f k < f p) ∧ (j + 1 < n → f p < f (j + 1))
theorem SpA.uniq {f : Nat → Int} {p i j : Nat} (a : SpA f p i) (b : SpA f p j) : i = j := by
  obtain ⟨a1, a2, a3⟩ := a
  obtain ⟨b1, b2, b3⟩ := b
  rcases Nat.lt_trichotomy i j with h | h | h
  · exfalso
    have h1 := b3 (by omega)
    have h2 := a2 (j - 1) (by omega) (by omega)
    omega
  · exact h
  · exfalso
    have h1 := a3 (by omega)
    have h2 := b2 (i - 1) (by omega) (by omega)
    omega
theorem SpB.uniq {f : Nat → Int} {n p i j : Nat} (a : SpB f n p i) (b : SpB f n p j) : i = j := by
  obtain ⟨a1, a0, a2, a3⟩ := a
  obtain ⟨b1, b0, b2, b3⟩ := b
  rcases Nat.lt_trichotomy i j with h | h | h
  · exfalso
    have h1 := a3 (by omega)
    have h2 := b2 (i + 1) (by omega) (by omega)
    omega
  · exact h
  · exfalso
    have h1 := b3 (by omega)
    have h2 := a2 (j + 1) (by omega) (by omega)
    omega
def mir (f : Nat → Int) (L R k : Nat) : Int := if L ≤ k ∧ k ≤ R then f (L + R - k) else f k
theorem mir_in {f : Nat → Int} {L R k : Nat} (h1 : L ≤ k) (h2 : k ≤ R) : mir f L R k = f (L + R - k) := if_pos ⟨h1, h2⟩
theorem mir_out {f : Nat → Int} {L R k : Nat} (h : k < L ∨ R < k) : mir f L R k = f k := if_neg fun z => by omega
section
variable {f : Nat → Int} {n p L R q i j : Nat}
theorem mir_self (A : SpA f p L) (B : SpB f n p R) : SpA (mir f L R) (L + R - p) L ∧ SpB (mir f L R) n (L + R - p) R := by
  obtain ⟨a1, a2, a3⟩ := A
  obtain ⟨b1, b0, b2, b3⟩ := B
  have e : mir f L R (L + R - p) = f p := by rw [mir_in (by omega) (by omega)]; congr 1; omega
  refine ⟨⟨by omega, fun k h1 h2 => ?_, fun h => ?_⟩, by omega, b0, fun k h1 h2 => ?_, fun h => ?_⟩
  · rw [e, mir_in h1 (by omega)]
    exact b2 _ (by omega) (by omega)
  · rw [e, mir_out (.inl (by omega))]
    exact a3 h
  · rw [e, mir_in (by omega) h2]
    exact a2 _ (by omega) (by omega)
  · rw [e, mir_out (.inr (by omega))]
    exact b3 h
theorem mir_within (A : SpA f p L) (B : SpB f n p R) (hL : L ≤ q) (hR : q ≤ R) (hq : q ≠ p) (a : SpA f q i) (b : SpB f n q j) : (L ≤ i ∧ j ≤ R) ∧ SpA (mir f L R) (L + R - q) (L + R - j) ∧ SpB (mir f L R) n (L + R - q) (L + R - i) := by
  obtain ⟨a1, a2, a3⟩ := A
  obtain ⟨b1, b0, b2, b3⟩ := B
  obtain ⟨c1, c2, c3⟩ := a
  obtain ⟨d1, d0, d2, d3⟩ := b
  have qp : f q < f p := by
    rcases Nat.lt_or_gt_of_ne hq with h | h
    · exact a2 q hL h
    · exact b2 q h hR
  have hi : L ≤ i := Classical.byContradiction fun w => by
    have h1 := c2 (L - 1) (by omega) (by omega)
    have h2 := a3 (by omega)
    omega
  have hj : j ≤ R := Classical.byContradiction fun w => by
    have h1 := d2 (R + 1) (by omega) (by omega)
    have h2 := b3 (by omega)
    omega
  have e : mir f L R (L + R - q) = f q := by rw [mir_in (by omega) (by omega)]; congr 1; omega
  refine ⟨⟨hi, hj⟩, ⟨by omega, fun k h1 h2 => ?_, fun h => ?_⟩, by omega, by omega, fun k h1 h2 => ?_, fun h => ?_⟩
  · rw [e, mir_in (by omega) (by omega)]
    exact d2 _ (by omega) (by omega)
  · rw [e]
    by_cases c : j < R
    · rw [mir_in (by omega) (by omega)]
      have := d3 (by omega)
      rw [show L + R - (L + R - j - 1) = j + 1 by omega]
      exact this
    · rw [mir_out (.inl (by omega)), show L + R - j - 1 = L - 1 by omega]
      have := a3 (by omega)
      omega
  · rw [e, mir_in (by omega) (by omega)]
    exact c2 _ (by omega) (by omega)
  · rw [e]
    by_cases c : L < i
    · rw [mir_in (by omega) (by omega)]
      have := c3 (by omega)
      rw [show L + R - (L + R - i + 1) = i - 1 by omega]
      exact this
    · rw [mir_out (.inr (by omega)), show L + R - i + 1 = R + 1 by omega]
      have := b3 (by omega)
      omega
theorem mir_apart (A : SpA f p L) (B : SpB f n p R) (hq : q < L ∨ R < q) (a : SpA f q i) (b : SpB f n q j) : SpA (mir f L R) q i ∧ SpB (mir f L R) n q j := by
  obtain ⟨a1, a2, a3⟩ := A
  obtain ⟨b1, b0, b2, b3⟩ := B
  obtain ⟨c1, c2, c3⟩ := a
  obtain ⟨d1, d0, d2, d3⟩ := b
  have le : ∀ k, L ≤ k → k ≤ R → f k ≤ f p := fun k h1 h2 => by
    rcases Nat.lt_trichotomy k p with h | h | h
    · exact Int.le_of_lt (a2 k h1 h)
    · rw [h]; exact Int.le_refl _
    · exact Int.le_of_lt (b2 k h h2)
  have e : mir f L R q = f q := mir_out hq
  rcases hq with hq | hq
  · have bd : 0 < L := by omega
    have hb := a3 bd
    have far : L ≤ j → f p < f q := fun h => by
      rcases Nat.lt_or_ge q (L - 1) with z | z
      · have := d2 (L - 1) z (by omega); omega
      · obtain rfl : q = L - 1 := by omega
        exact hb
    refine ⟨⟨c1, fun k h1 h2 => ?_, fun h => ?_⟩, d1, d0, fun k h1 h2 => ?_, fun h => ?_⟩
    · rw [e, mir_out (.inl (by omega))]; exact c2 k h1 h2
    · rw [e, mir_out (.inl (by omega))]; exact c3 h
    · rw [e]
      by_cases c : L ≤ k ∧ k ≤ R
      · rw [mir_in c.1 c.2]
        have := far (by omega)
        have := le (L + R - k) (by omega) (by omega)
        omega
      · rw [mir_out (by omega)]; exact d2 k h1 h2
    · rw [e]
      have z := d3 h
      by_cases c : L ≤ j + 1 ∧ j + 1 ≤ R
      · exfalso
        by_cases c2 : L ≤ j
        · have := far c2
          have := le (j + 1) c.1 c.2
          omega
        · obtain rfl : L = j + 1 := by omega
          have := le (j + 1) c.1 c.2
          rcases Nat.lt_or_ge q j with w | w
          · have := d2 j w (Nat.le_refl _)
            rw [show j + 1 - 1 = j by omega] at hb
            omega
          · obtain rfl : q = j := by omega
            rw [show q + 1 - 1 = q by omega] at hb
            omega
      · rw [mir_out (by omega)]; exact z
  · have hb : f p < f (R + 1) := b3 (by omega)
    have far : i ≤ R → f p < f q := fun h => by
      rcases Nat.lt_or_ge (R + 1) q with z | z
      · have := c2 (R + 1) (by omega) z; omega
      · obtain rfl : q = R + 1 := by omega
        exact hb
    refine ⟨⟨c1, fun k h1 h2 => ?_, fun h => ?_⟩, d1, d0, fun k h1 h2 => ?_, fun h => ?_⟩
    · rw [e]
      by_cases c : L ≤ k ∧ k ≤ R
      · rw [mir_in c.1 c.2]
        have := far (by omega)
        have := le (L + R - k) (by omega) (by omega)
        omega
      · rw [mir_out (by omega)]; exact c2 k h1 h2
    · rw [e]
      have z := c3 h
      by_cases c : L ≤ i - 1 ∧ i - 1 ≤ R
      · exfalso
        by_cases c4 : i ≤ R
        · have := far c4
          have := le (i - 1) c.1 c.2
          omega
        · obtain rfl : i = R + 1 := by omega
          have := le (R + 1 - 1) c.1 c.2
          rcases Nat.lt_or_ge (R + 1) q with w | w
          · have := c2 (R + 1) (Nat.le_refl _) w
            omega
          · obtain rfl : q = R + 1 := by omega
            omega
      · rw [mir_out (by omega)]; exact z
    · rw [e, mir_out (.inr (by omega))]; exact d2 k h1 h2
    · rw [e, mir_out (.inr (by omega))]; exact d3 h
end
theorem sp_lo {s : List Int} {x : Int} (nd : s.Nodup) (hx : x ∈ s) : SpA (s.getD · 0) (ixOf x s) (lo s x) := by
  have sp := dn_spec (s := s) (x := x) (ixOf x s)
  have e := ix_at hx
  refine ⟨lo_le_ix s x, fun k h1 h2 => ?_, fun h => ?_⟩
  · show s.getD k 0 < s.getD (ixOf x s) 0
    rw [e]; exact sp.1 k h1 h2
  · show s.getD (ixOf x s) 0 < s.getD (lo s x - 1) 0
    rw [e]
    have h1 := sp.2 h
    have h3 := lo_le_ix s x
    have h2 := ix_first (s := s) (x := x) (k := lo s x - 1) (by omega)
    unfold lo at *
    omega
theorem sp_hi {s : List Int} {x : Int} (nd : s.Nodup) (hx : x ∈ s) : SpB (s.getD · 0) s.length (ixOf x s) (hi s x) := by
  have hi0 := ixOf_lt hx
  have sp := up_spec (s := s) (x := x) s.length (ixOf x s) hi0 (by omega)
  have e := ix_at hx
  have hge := ix_le_hi s x
  refine ⟨hge, hi_lt hx, fun k h1 h2 => ?_, fun h => ?_⟩
  · show s.getD k 0 < s.getD (ixOf x s) 0
    rw [e]; exact sp.1 k h1 h2
  · show s.getD (ixOf x s) 0 < s.getD (hi s x + 1) 0
    rw [e]
    have h1 := sp.2 h
    have h2 := ix_after (s := s) (x := x) nd (k := hi s x + 1) (by omega) h
    unfold hi at *
    omega
theorem lo_of {s : List Int} {x : Int} {p i : Nat} (nd : s.Nodup) (hp : p < s.length) (e : s.getD p 0 = x) (a : SpA (s.getD · 0) p i) : lo s x = i := by
  rw [List.getD_eq_getElem?_getD, List.getElem?_eq_getElem hp] at e
  have e : s[p] = x := e
  have hx : x ∈ s := e ▸ List.getElem_mem hp
  have ip : ixOf x s = p := by rw [← e]; exact ix_inj nd hp
  have := sp_lo nd hx
  rw [ip] at this
  exact this.uniq a
theorem hi_of {s : List Int} {x : Int} {p i : Nat} (nd : s.Nodup) (hp : p < s.length) (e : s.getD p 0 = x) (a : SpB (s.getD · 0) s.length p i) : hi s x = i := by
  rw [List.getD_eq_getElem?_getD, List.getElem?_eq_getElem hp] at e
  have e : s[p] = x := e
  have hx : x ∈ s := e ▸ List.getElem_mem hp
  have ip : ixOf x s = p := by rw [← e]; exact ix_inj nd hp
  have := sp_hi nd hx
  rw [ip] at this
  exact this.uniq a
def rev (s : List Int) (i j : Nat) : List Int := s.take i ++ (cut s i (j + 1)).reverse ++ s.drop (j + 1)
def turn (s : List Int) (x : Int) : List Int := rev s (lo s x) (hi s x)
theorem cut_get {s : List Int} {i j k : Nat} (h : k < j - i) (hj : j ≤ s.length) : (cut s i j)[k]? = s[i + k]? := by
  unfold cut
  rw [List.getElem?_take_of_lt h, List.getElem?_drop]
theorem rev_get {s : List Int} {i j : Nat} (h1 : i ≤ j) (h2 : j < s.length) (k : Nat) : (rev s i j).getD k 0 = mir (s.getD · 0) i j k := by
  have cl := cut_len s i (j + 1) (by omega) (by omega)
  have tl : (s.take i).length = i := by rw [List.length_take]; omega
  simp only [List.getD_eq_getElem?_getD]
  unfold rev mir
  by_cases c1 : k < i
  · rw [if_neg (by omega), List.append_assoc, List.getElem?_append_left (by omega), List.getElem?_take_of_lt c1]
  · by_cases c2 : k ≤ j
    · rw [if_pos ⟨by omega, c2⟩, List.append_assoc, List.getElem?_append_right (by omega), List.getElem?_append_left (by rw [List.length_reverse]; omega), List.getElem?_reverse (by omega), cut_get (by omega) (by omega)]
      congr 2
      omega
    · rw [if_neg (by omega), List.getElem?_append_right (by rw [List.length_append, List.length_reverse]; omega), List.getElem?_drop]
      congr 2
      rw [List.length_append, List.length_reverse]
      omega
theorem rev_perm {s : List Int} {i j : Nat} (h1 : i ≤ j) (h2 : j < s.length) : (rev s i j).Perm s := by
  unfold rev cut
  have e : s = s.take i ++ (s.drop i).take (j + 1 - i) ++ s.drop (j + 1) := by
    rw [List.append_assoc]
    conv => lhs; rw [← List.take_append_drop i s]
    congr 1
    conv => lhs; rw [← List.take_append_drop (j + 1 - i) (s.drop i)]
    congr 1
    rw [List.drop_drop]
    congr 1
    omega
  conv => rhs; rw [e]
  exact ((List.reverse_perm _).append_left _).append_right _
theorem turn_perm {s : List Int} {x : Int} (hx : x ∈ s) : (turn s x).Perm s := rev_perm lo_hi (hi_lt hx)
theorem turn_len {s : List Int} {x : Int} (hx : x ∈ s) : (turn s x).length = s.length := (turn_perm hx).length_eq
theorem turn_mem {s : List Int} {x y : Int} (hx : x ∈ s) : y ∈ turn s x ↔ y ∈ s := (turn_perm hx).mem_iff
theorem turn_nd {s : List Int} {x : Int} (hx : x ∈ s) (nd : s.Nodup) : (turn s x).Nodup := (turn_perm hx).nodup_iff.mpr nd
theorem turn_get {s : List Int} {x : Int} (hx : x ∈ s) (k : Nat) : (turn s x).getD k 0 = mir (s.getD · 0) (lo s x) (hi s x) k := rev_get lo_hi (hi_lt hx) k
theorem turn_okS {s : List Int} {x : Int} (hx : x ∈ s) (h : okS s) : okS (turn s x) := by
  obtain ⟨a, b, c, d⟩ := h
  refine ⟨turn_nd hx a, by rw [turn_len hx]; exact b, by rw [turn_len hx]; exact c, fun y hy => d y ((turn_mem hx).mp hy)⟩
theorem turn_fun {s : List Int} {x : Int} (hx : x ∈ s) : ((turn s x).getD · 0) = mir (s.getD · 0) (lo s x) (hi s x) := funext fun k => turn_get hx k
theorem turn_self {s : List Int} {x : Int} (nd : s.Nodup) (hx : x ∈ s) : lo (turn s x) x = lo s x ∧ hi (turn s x) x = hi s x ∧ ixOf x (turn s x) = lo s x + hi s x - ixOf x s := by
  obtain ⟨a, b⟩ := mir_self (sp_lo nd hx) (sp_hi nd hx)
  have h1 := lo_le_ix s x
  have h2 := ix_le_hi s x
  have h3 := hi_lt hx
  have nt := turn_nd hx nd
  have hp : lo s x + hi s x - ixOf x s < (turn s x).length := by rw [turn_len hx]; omega
  have e : (turn s x).getD (lo s x + hi s x - ixOf x s) 0 = x := by
    rw [turn_get hx, mir_in (by omega) (by omega)]
    show s.getD _ 0 = x
    rw [show lo s x + hi s x - (lo s x + hi s x - ixOf x s) = ixOf x s by omega]
    exact ix_at hx
  rw [← turn_fun hx] at a b
  rw [← turn_len hx] at b
  refine ⟨lo_of nt hp e a, hi_of nt hp e b, ?_⟩
  rw [List.getD_eq_getElem?_getD, List.getElem?_eq_getElem hp] at e
  have e : (turn s x)[lo s x + hi s x - ixOf x s] = x := e
  have := ix_inj nt hp
  rwa [e] at this
theorem turn_in {s : List Int} {x y : Int} (nd : s.Nodup) (hx : x ∈ s) (hy : y ∈ s) (hn : y ≠ x) (h1 : lo s x ≤ ixOf y s) (h2 : ixOf y s ≤ hi s x) :
    (lo s x ≤ lo s y ∧ hi s y ≤ hi s x) ∧ lo (turn s x) y = lo s x + hi s x - hi s y ∧ hi (turn s x) y = lo s x + hi s x - lo s y ∧ ixOf y (turn s x) = lo s x + hi s x - ixOf y s := by
  have hq : ixOf y s ≠ ixOf x s := fun z => hn (by rw [← ix_at hy, ← ix_at hx, z])
  obtain ⟨w, a, b⟩ := mir_within (sp_lo nd hx) (sp_hi nd hx) h1 h2 hq (sp_lo nd hy) (sp_hi nd hy)
  have h3 := hi_lt hx
  have nt := turn_nd hx nd
  have hp : lo s x + hi s x - ixOf y s < (turn s x).length := by rw [turn_len hx]; omega
  have e : (turn s x).getD (lo s x + hi s x - ixOf y s) 0 = y := by
    rw [turn_get hx, mir_in (by omega) (by omega)]
    show s.getD _ 0 = y
    rw [show lo s x + hi s x - (lo s x + hi s x - ixOf y s) = ixOf y s by omega]
    exact ix_at hy
  rw [← turn_fun hx] at a b
  rw [← turn_len hx] at b
  refine ⟨w, lo_of nt hp e a, hi_of nt hp e b, ?_⟩
  rw [List.getD_eq_getElem?_getD, List.getElem?_eq_getElem hp] at e
  have e : (turn s x)[lo s x + hi s x - ixOf y s] = y := e
  have := ix_inj nt hp
  rwa [e] at this
theorem turn_out {s : List Int} {x y : Int} (nd : s.Nodup) (hx : x ∈ s) (hy : y ∈ s) (h : ixOf y s < lo s x ∨ hi s x < ixOf y s) :
    lo (turn s x) y = lo s y ∧ hi (turn s x) y = hi s y ∧ ixOf y (turn s x) = ixOf y s := by
  obtain ⟨a, b⟩ := mir_apart (sp_lo nd hx) (sp_hi nd hx) h (sp_lo nd hy) (sp_hi nd hy)
  have nt := turn_nd hx nd
  have hp : ixOf y s < (turn s x).length := by rw [turn_len hx]; exact ixOf_lt hy
  have e : (turn s x).getD (ixOf y s) 0 = y := by
    rw [turn_get hx, mir_out h]
    exact ix_at hy
  rw [← turn_fun hx] at a b
  rw [← turn_len hx] at b
  refine ⟨lo_of nt hp e a, hi_of nt hp e b, ?_⟩
  rw [List.getD_eq_getElem?_getD, List.getElem?_eq_getElem hp] at e
  have e : (turn s x)[ixOf y s] = y := e
  have := ix_inj nt hp
  rwa [e] at this
theorem turn_lenL {s : List Int} {x y : Int} (nd : s.Nodup) (hx : x ∈ s) (hy : y ∈ s) : len (turn s x) y = len s y := by
  have h1 := lo_hi (s := s) (x := y)
  by_cases c : ixOf y s < lo s x ∨ hi s x < ixOf y s
  · obtain ⟨a, b, _⟩ := turn_out nd hx hy c
    unfold len
    rw [a, b]
  · by_cases e : y = x
    · subst e
      obtain ⟨a, b, _⟩ := turn_self nd hx
      unfold len
      rw [a, b]
    · obtain ⟨⟨w1, w2⟩, a, b, _⟩ := turn_in nd hx hy e (by omega) (by omega)
      unfold len
      rw [a, b]
      omega
theorem turn_flag {s : List Int} {e x y : Int} (nd : s.Nodup) (hx : x ∈ s) (hy : y ∈ s) (hf : flag s e x = false) : flag (turn s x) e y = flag s e y := by
  have hl := turn_len hx
  by_cases c : ixOf y s < lo s x ∨ hi s x < ixOf y s
  · obtain ⟨a, b, _⟩ := turn_out nd hx hy c
    unfold flag opB
    rw [a, b, hl]
  · by_cases n : y = x
    · subst n
      obtain ⟨a, b, _⟩ := turn_self nd hx
      unfold flag opB
      rw [a, b, hl]
    · obtain ⟨⟨w1, w2⟩, a, b, _⟩ := turn_in nd hx hy n (by omega) (by omega)
      have h3 := hi_lt hx
      have h4 := lo_hi (s := s) (x := y)
      unfold flag opA opB at hf ⊢
      rw [a, b, hl]
      simp only [Bool.or_eq_false_iff, decide_eq_false_iff_not] at hf
      rw [Bool.eq_iff_iff]
      simp only [Bool.or_eq_true, decide_eq_true_eq]
      omega
theorem turn_head {s : List Int} {e x y : Int} (nd : s.Nodup) (hx : x ∈ s) (hy : y ∈ s) (hf : flag s e x = false) : head (turn s x) e y = head s e y := by
  have h1 := turn_lenL nd hx hy
  have h2 := turn_flag nd hx hy hf
  unfold head
  unfold len at h1
  rw [h1, h2]
theorem sortI_perm_eq {a b : List Int} (h : a.Perm b) : sortI a = sortI b := sortI_uniq ((sortI_perm a).trans h) (sortI_sorted a)
theorem turn_heads {s : List Int} {e x : Int} (nd : s.Nodup) (hx : x ∈ s) (hf : flag s e x = false) : heads (turn s x) e = heads s e := by
  unfold heads
  rw [sortI_perm_eq (turn_perm hx)]
  exact List.filter_congr fun y hy => turn_head nd hx ((sortI_perm s).mem_iff.mp hy) hf
theorem turn_free {s : List Int} {e x : Int} {r : Option (List Int)} (nd : s.Nodup) (hx : x ∈ s) (hf : flag s e x = false) : free (turn s x) e r = free s e r := by
  unfold free
  rw [turn_heads nd hx hf]
  exact List.filter_congr fun y hy => by rw [turn_lenL nd hx (heads_mem hy)]
theorem head_flag {s : List Int} {e x : Int} (h : head s e x = true) : flag s e x = false := by
  unfold head at h
  simp only [Bool.and_eq_true, Bool.not_eq_true'] at h
  exact h.2
section
variable {f : Nat → Int} {n p L R q i j : Nat}
theorem apart_cl (A : SpA f p L) (B : SpB f n p R) (hq : q < L ∨ R < q) (a : SpA f q i) (b : SpB f n q j) : (0 < i → i - 1 < L ∨ R < i - 1) ∧ (j + 1 < n → j + 1 < L ∨ R < j + 1) := by
  obtain ⟨a1, a2, a3⟩ := A
  obtain ⟨b1, b0, b2, b3⟩ := B
  obtain ⟨c1, c2, c3⟩ := a
  obtain ⟨d1, d0, d2, d3⟩ := b
  have le : ∀ k, L ≤ k → k ≤ R → f k ≤ f p := fun k h1 h2 => by
    rcases Nat.lt_trichotomy k p with h | h | h
    · exact Int.le_of_lt (a2 k h1 h)
    · rw [h]; exact Int.le_refl _
    · exact Int.le_of_lt (b2 k h h2)
  rcases hq with hq | hq
  · refine ⟨fun h => .inl (by omega), fun h => Classical.byContradiction fun w => ?_⟩
    have hb := a3 (by omega)
    have far : L ≤ j → f p < f q := fun h => by
      rcases Nat.lt_or_ge q (L - 1) with z | z
      · have := d2 (L - 1) z (by omega); omega
      · obtain rfl : q = L - 1 := by omega
        exact hb
    have z := d3 h
    by_cases c2 : L ≤ j
    · have := far c2
      have := le (j + 1) (by omega) (by omega)
      omega
    · obtain rfl : L = j + 1 := by omega
      have := le (j + 1) (by omega) (by omega)
      rcases Nat.lt_or_ge q j with w | w
      · have := d2 j w (Nat.le_refl _)
        rw [show j + 1 - 1 = j by omega] at hb
        omega
      · obtain rfl : q = j := by omega
        rw [show q + 1 - 1 = q by omega] at hb
        omega
  · refine ⟨fun h => Classical.byContradiction fun w => ?_, fun h => .inr (by omega)⟩
    have hb : f p < f (R + 1) := b3 (by omega)
    have far : i ≤ R → f p < f q := fun h => by
      rcases Nat.lt_or_ge (R + 1) q with z | z
      · have := c2 (R + 1) (by omega) z; omega
      · obtain rfl : q = R + 1 := by omega
        exact hb
    have z := c3 h
    by_cases c4 : i ≤ R
    · have := far c4
      have := le (i - 1) (by omega) (by omega)
      omega
    · obtain rfl : i = R + 1 := by omega
      have := le (R + 1 - 1) (by omega) (by omega)
      rcases Nat.lt_or_ge (R + 1) q with w | w
      · have := c2 (R + 1) (Nat.le_refl _) w
        omega
      · obtain rfl : q = R + 1 := by omega
        omega
end
def mnP (a b : Option Int) : Option Int := match a, b with
  | none, none => none
  | some a, none => some a
  | none, some b => some b
  | some a, some b => some (min a b)
def clA (f : Nat → Int) (i : Nat) : Option Int := if 0 < i then some (f (i - 1)) else none
def clB (f : Nat → Int) (n j : Nat) : Option Int := if j + 1 < n then some (f (j + 1)) else none
theorem par_eq (s : List Int) (x : Int) : par s x = mnP (clA (s.getD · 0) (lo s x)) (clB (s.getD · 0) s.length (hi s x)) := by
  unfold par clo aI bI clA clB
  by_cases c1 : 0 < lo s x <;> by_cases c2 : hi s x + 1 < s.length <;> simp [c1, c2, mnO, mnP]
theorem mnP_comm (a b : Option Int) : mnP a b = mnP b a := by
  cases a <;> cases b <;> simp [mnP, Int.min_comm]
theorem mnP_left {a : Int} {b : Option Int} (h : ∀ c, b = some c → a ≤ c) : mnP (some a) b = some a := by
  cases b with
  | none => rfl
  | some c => have := h c rfl; simp [mnP]; omega
theorem turn_par {s : List Int} {x y : Int} (nd : s.Nodup) (hx : x ∈ s) (hy : y ∈ s) : par (turn s x) y = par s y := by
  rw [par_eq, par_eq, turn_fun hx, turn_len hx]
  have A := sp_lo nd hx
  have B := sp_hi nd hx
  have a := sp_lo nd hy
  have b := sp_hi nd hy
  by_cases c : ixOf y s < lo s x ∨ hi s x < ixOf y s
  · obtain ⟨e1, e2, _⟩ := turn_out nd hx hy c
    obtain ⟨h1, h2⟩ := apart_cl A B c a b
    rw [e1, e2]
    congr 1
    · unfold clA
      by_cases z : 0 < lo s y
      · rw [if_pos z, if_pos z, mir_out (h1 z)]
      · rw [if_neg z, if_neg z]
    · unfold clB
      by_cases z : hi s y + 1 < s.length
      · rw [if_pos z, if_pos z, mir_out (h2 z)]
      · rw [if_neg z, if_neg z]
  · by_cases n : y = x
    · subst n
      obtain ⟨e1, e2, _⟩ := turn_self nd hx
      rw [e1, e2]
      congr 1
      · unfold clA
        by_cases z : 0 < lo s y
        · rw [if_pos z, if_pos z, mir_out (.inl (by omega))]
        · rw [if_neg z, if_neg z]
      · unfold clB
        by_cases z : hi s y + 1 < s.length
        · rw [if_pos z, if_pos z, mir_out (.inr (by omega))]
        · rw [if_neg z, if_neg z]
    · obtain ⟨⟨w1, w2⟩, e1, e2, _⟩ := turn_in nd hx hy n (by omega) (by omega)
      have g1 := lo_le_ix s y
      have g2 := ix_le_hi s y
      have g3 := lo_le_ix s x
      have g4 := ix_le_hi s x
      have g5 := hi_lt hx
      have hq : ixOf y s ≠ ixOf x s := fun z => n (by rw [← ix_at hy, ← ix_at hx, z])
      have le : ∀ k, lo s x ≤ k → k ≤ hi s x → s.getD k 0 ≤ s.getD (ixOf x s) 0 := fun k h1 h2 => by
        rcases Nat.lt_trichotomy k (ixOf x s) with h | h | h
        · exact Int.le_of_lt (A.2.1 k h1 h)
        · rw [h]; exact Int.le_refl _
        · exact Int.le_of_lt (B.2.2.1 k h h2)
      have oA : ∀ c, clA (mir (s.getD · 0) (lo s x) (hi s x)) (lo s x) = some c → s.getD (ixOf x s) 0 < c := fun c h => by
        unfold clA at h
        by_cases z : 0 < lo s x
        · rw [if_pos z, mir_out (.inl (by omega))] at h
          cases h
          exact A.2.2 z
        · rw [if_neg z] at h; cases h
      have oB : ∀ c, clB (mir (s.getD · 0) (lo s x) (hi s x)) s.length (hi s x) = some c → s.getD (ixOf x s) 0 < c := fun c h => by
        unfold clB at h
        by_cases z : hi s x + 1 < s.length
        · rw [if_pos z, mir_out (.inr (by omega))] at h
          cases h
          exact B.2.2.2 z
        · rw [if_neg z] at h; cases h
      have pA : ∀ c, clA (s.getD · 0) (lo s x) = some c → s.getD (ixOf x s) 0 < c := fun c h => by
        unfold clA at h
        by_cases z : 0 < lo s x
        · rw [if_pos z] at h
          cases h
          exact A.2.2 z
        · rw [if_neg z] at h; cases h
      have pB : ∀ c, clB (s.getD · 0) s.length (hi s x) = some c → s.getD (ixOf x s) 0 < c := fun c h => by
        unfold clB at h
        by_cases z : hi s x + 1 < s.length
        · rw [if_pos z] at h
          cases h
          exact B.2.2.2 z
        · rw [if_neg z] at h; cases h
      rw [e1, e2]
      have tA : hi s y < hi s x → clA (mir (s.getD · 0) (lo s x) (hi s x)) (lo s x + hi s x - hi s y) = some (s.getD (hi s y + 1) 0) := fun h => by
        unfold clA
        rw [if_pos (by omega), mir_in (by omega) (by omega)]
        congr 2
        omega
      have tB : lo s x < lo s y → clB (mir (s.getD · 0) (lo s x) (hi s x)) s.length (lo s x + hi s x - lo s y) = some (s.getD (lo s y - 1) 0) := fun h => by
        unfold clB
        rw [if_pos (by omega), mir_in (by omega) (by omega)]
        congr 2
        omega
      have sA : lo s x < lo s y → clA (s.getD · 0) (lo s y) = some (s.getD (lo s y - 1) 0) := fun h => if_pos (by omega)
      have sB : hi s y < hi s x → clB (s.getD · 0) s.length (hi s y) = some (s.getD (hi s y + 1) 0) := fun h => if_pos (by omega)
      by_cases k1 : lo s x < lo s y
      · by_cases k2 : hi s y < hi s x
        · rw [tA k2, tB k1, sA k1, sB k2, mnP_comm]
        · have q2 : hi s y = hi s x := by omega
          rw [tB k1, sA k1, q2, show lo s x + hi s x - hi s x = lo s x by omega, mnP_comm, mnP_left fun c h => ?_, mnP_left fun c h => ?_]
          · have := pB c h
            have := le (lo s y - 1) (by omega) (by omega)
            omega
          · have := oA c h
            have := le (lo s y - 1) (by omega) (by omega)
            omega
      · have q1 : lo s y = lo s x := by omega
        by_cases k2 : hi s y < hi s x
        · rw [tA k2, sB k2, q1, show lo s x + hi s x - lo s x = hi s x by omega, mnP_left fun c h => ?_, mnP_comm, mnP_left fun c h => ?_]
          · have := pA c h
            have := le (hi s y + 1) (by omega) (by omega)
            omega
          · have := oB c h
            have := le (hi s y + 1) (by omega) (by omega)
            omega
        · exfalso
          have u1 : s.getD (ixOf x s) 0 < s.getD (ixOf y s) 0 := by
            rcases Nat.lt_or_gt_of_ne hq with h | h
            · exact b.2.2.1 _ h (by omega)
            · exact a.2.1 _ (by omega) h
          have u2 := le (ixOf y s) (by omega) (by omega)
          omega
theorem rec_out {s : List Int} {e x p : Int} (nd : s.Nodup) (hx : x ∈ s) (hp : p ∈ s) (hf : flag s e x = false) (h : flag s e p = true) : ixOf p s < lo s x ∨ hi s x < ixOf p s := by
  refine Classical.byContradiction fun c => ?_
  have n : p ≠ x := fun z => by rw [z, hf] at h; cases h
  obtain ⟨⟨w1, w2⟩, _⟩ := turn_in nd hx hp n (by omega) (by omega)
  have h3 := hi_lt hx
  have h4 := lo_hi (s := s) (x := p)
  unfold flag opA opB at hf h
  simp only [Bool.or_eq_false_iff, decide_eq_false_iff_not] at hf
  simp only [Bool.or_eq_true, decide_eq_true_eq] at h
  omega
theorem turn_order {s : List Int} {e x y p : Int} (nd : s.Nodup) (hx : x ∈ s) (hy : y ∈ s) (hp : p ∈ s) (hf : flag s e x = false) (h : flag s e p = true) : (ixOf y (turn s x) < ixOf p (turn s x)) ↔ (ixOf y s < ixOf p s) := by
  have o := rec_out nd hx hp hf h
  obtain ⟨_, _, e1⟩ := turn_out nd hx hp o
  rw [e1]
  have g1 := lo_hi (s := s) (x := x)
  by_cases c : ixOf y s < lo s x ∨ hi s x < ixOf y s
  · obtain ⟨_, _, e2⟩ := turn_out nd hx hy c
    rw [e2]
  · by_cases n : y = x
    · subst n
      obtain ⟨_, _, e2⟩ := turn_self nd hx
      rw [e2]
      have := lo_le_ix s y
      have := ix_le_hi s y
      omega
    · obtain ⟨_, _, _, e2⟩ := turn_in nd hx hy n (by omega) (by omega)
      rw [e2]
      omega
def sideI (s : List Int) (e x : Int) : Int := match par s x with
  | none => -1
  | some p => if flag s e p = true then (if ixOf x s < ixOf p s then 0 else 1) else -1
def shpD (s : List Int) (e x : Int) : D := .tup [.int x, oD (par s x), .int (sideI s e x)]
def shapeD (s : List Int) (e : Int) : List D := (sortI s).map (shpD s e)
theorem turn_side {s : List Int} {e x y : Int} (nd : s.Nodup) (hx : x ∈ s) (hy : y ∈ s) (hf : flag s e x = false) : sideI (turn s x) e y = sideI s e y := by
  unfold sideI
  rw [turn_par nd hx hy]
  cases hp : par s y with
  | none => rfl
  | some p =>
    have hpm := par_mem hy p hp
    show (if flag (turn s x) e p = true then (if ixOf y (turn s x) < ixOf p (turn s x) then (0 : Int) else 1) else -1) = if flag s e p = true then (if ixOf y s < ixOf p s then 0 else 1) else -1
    rw [turn_flag nd hx hpm hf]
    by_cases c : flag s e p = true
    · rw [if_pos c, if_pos c]
      have := turn_order nd hx hy hpm hf c
      by_cases d : ixOf y s < ixOf p s
      · rw [if_pos d, if_pos (this.mpr d)]
      · rw [if_neg d, if_neg fun z => d (this.mp z)]
    · rw [if_neg c, if_neg c]
end K54
namespace K54
open PySem TV
theorem lc_inv {vs : List Nat} {i : Nat} {t : MT} {u : ME} {I : Nat → TV.Env → List D → Prop} : ∀ (ds : List D) (k : Nat) (ρ : TV.Env) (acc : List D), I k ρ acc → acc.length + ds.length ≤ sizeLine →
    (∀ j d ρ acc, ds[j]? = some d → I (k + j) ρ acc → (∃ ρ1 ρ2 y, t (ρ.set i (some d)) = .ok (true, ρ1) ∧ u ρ1 = .ok (y, ρ2) ∧ y.own = false ∧ I (k + j + 1) (wipeE ρ2 vs) (acc ++ [y])) ∨ (∃ ρ1, t (ρ.set i (some d)) = .ok (false, ρ1) ∧ I (k + j + 1) (wipeE ρ1 vs) acc)) →
    ∃ ρ' acc', lcL vs (gN i) t u ds ρ acc = .ok (.lst acc', ρ') ∧ I (k + ds.length) ρ' acc'
  | [], k, ρ, acc, h, _, _ => ⟨ρ, acc, rfl, h⟩
  | d :: ds, k, ρ, acc, h, hz, hs => by
    rw [List.length_cons] at hz
    have nx : ∀ j d' ρ acc, ds[j]? = some d' → I (k + 1 + j) ρ acc → (∃ ρ1 ρ2 y, t (ρ.set i (some d')) = .ok (true, ρ1) ∧ u ρ1 = .ok (y, ρ2) ∧ y.own = false ∧ I (k + 1 + j + 1) (wipeE ρ2 vs) (acc ++ [y])) ∨ (∃ ρ1, t (ρ.set i (some d')) = .ok (false, ρ1) ∧ I (k + 1 + j + 1) (wipeE ρ1 vs) acc) := fun j d' ρ acc e q => by
      have := hs (j + 1) d' ρ acc e (by rw [show k + (j + 1) = k + 1 + j by omega]; exact q)
      rwa [show k + (j + 1) + 1 = k + 1 + j + 1 by omega] at this
    rcases hs 0 d ρ acc rfl h with ⟨ρ1, ρ2, y, e1, e2, e3, q⟩ | ⟨ρ1, e1, q⟩
    · obtain ⟨ρ', acc', e4, q4⟩ := lc_inv ds (k + 1) (wipeE ρ2 vs) (acc ++ [y]) q (by rw [List.length_append, List.length_singleton]; omega) nx
      refine ⟨ρ', acc', ?_, by rw [List.length_cons, show k + (ds.length + 1) = k + 1 + ds.length by omega]; exact q4⟩
      unfold lcL
      have e0 : gN i d ρ = .ok (ρ.set i (some d)) := rfl
      rw [e0]
      simp only [e1, e2]
      rw [if_pos ⟨e3, by omega⟩]
      exact e4
    · obtain ⟨ρ', acc', e4, q4⟩ := lc_inv ds (k + 1) (wipeE ρ1 vs) acc q (by omega) nx
      refine ⟨ρ', acc', ?_, by rw [List.length_cons, show k + (ds.length + 1) = k + 1 + ds.length by omega]; exact q4⟩
      unfold lcL
      have e0 : gN i d ρ = .ok (ρ.set i (some d)) := rfl
      rw [e0]
      simp only [e1]
      exact e4
theorem dRng_get {m n j : Nat} {d : D} (h : (dRng m n)[j]? = some d) : j < n ∧ d = .int ((m + j : Nat) : Int) := by
  have hj : j < n := by
    have := (List.getElem?_eq_some_iff.mp h).1
    simpa [dRng] using this
  refine ⟨hj, ?_⟩
  have e : (dRng m n)[j]? = some (.int (m + j : Nat)) := by simp [dRng, hj]
  rw [e] at h
  exact (Option.some.inj h).symm
theorem run_keeps {P : List Int → Prop} {e : Int} {r : Option (List Int)} {s : List Int} (os : okS s) (h0 : P s) (hs : ∀ t x, okS t → free t e r = free s e r → x ∈ free t e r → P t → P (turn t x)) : ∀ l : List Int, (∀ x ∈ l, x ∈ free s e r) →
    (okS (l.foldl turn s) ∧ free (l.foldl turn s) e r = free s e r ∧ P (l.foldl turn s))
  | l, hl => by
    suffices ∀ (l : List Int) (t : List Int), okS t → free t e r = free s e r → P t → (∀ x ∈ l, x ∈ free s e r) → okS (l.foldl turn t) ∧ free (l.foldl turn t) e r = free s e r ∧ P (l.foldl turn t) from this l s os rfl h0 hl
    intro l
    induction l with
    | nil => exact fun t a b c _ => ⟨a, b, c⟩
    | cons x l ih =>
      intro t a b c h
      have hx : x ∈ free t e r := by rw [b]; exact h x List.mem_cons_self
      have hf := head_flag (List.mem_filter.mp (List.mem_filter.mp hx).1).2
      exact ih (turn t x) (turn_okS (free_mem hx) a) ((turn_free a.1 (free_mem hx) hf).trans b) (hs t x a b hx c) fun y hy => h y (List.mem_cons_of_mem _ hy)
end K54
namespace K54
open PySem TV
theorem mem_cut {s : List Int} {i j : Nat} {z : Int} (hz : z ∈ s) (h1 : i ≤ ixOf z s) (h2 : ixOf z s < j) (hj : j ≤ s.length) : z ∈ cut s i j := by
  have e := cut_get (s := s) (i := i) (j := j) (k := ixOf z s - i) (by omega) hj
  rw [show i + (ixOf z s - i) = ixOf z s by omega, ixOf_get hz] at e
  exact List.mem_of_getElem? e
def inLot (s : List Int) (x z : Int) : Prop := z ∈ s ∧ z ≠ x ∧ lo s x ≤ ixOf z s ∧ ixOf z s ≤ hi s x
theorem ix_ne {s : List Int} {x z : Int} (hx : x ∈ s) (hz : z ∈ s) (n : z ≠ x) : ixOf z s ≠ ixOf x s := fun e => n (by rw [← ix_at hz, ← ix_at hx, e])
theorem kid_in {s : List Int} {x z : Int} (nd : s.Nodup) (hx : x ∈ s) (h : z ∈ kids s x) : inLot s x z := by
  have g1 := lo_le_ix s x
  have g2 := ix_le_hi s x
  have ne : ∀ {w}, ixOf w s ≠ ixOf x s → w ≠ x := fun h e => h (by rw [e])
  unfold kids at h
  rcases List.mem_append.mp h with h | h
  · have hk : kidA s x = some z := by
      cases hh : kidA s x with
      | none => rw [hh] at h; cases h
      | some w => rw [hh] at h; cases List.mem_singleton.mp h; rfl
    have hm := (mxO_spec hk).1
    obtain ⟨a, b⟩ := cut_ix nd hm
    exact ⟨cut_mem hm, ne (by omega), by omega, by omega⟩
  · have hk : kidB s x = some z := by
      cases hh : kidB s x with
      | none => rw [hh] at h; cases h
      | some w => rw [hh] at h; cases List.mem_singleton.mp h; rfl
    have hm := (mxO_spec hk).1
    obtain ⟨a, b⟩ := cut_ix nd hm
    exact ⟨cut_mem hm, ne (by omega), by omega, by omega⟩
theorem kid_le {s : List Int} {x z : Int} (nd : s.Nodup) (hx : x ∈ s) (h : inLot s x z) : ∃ c ∈ kids s x, z ≤ c := by
  obtain ⟨hz, n, h1, h2⟩ := h
  have g := hi_lt hx
  have hn := ix_ne hx hz n
  unfold kids
  rcases Nat.lt_or_gt_of_ne hn with c | c
  · have hm := mem_cut (i := lo s x) (j := ixOf x s) hz h1 c (Nat.le_of_lt (ixOf_lt hx))
    cases hh : kidA s x with
    | none => exact absurd hm (by rw [mxO_none hh]; simp)
    | some w => exact ⟨w, List.mem_append_left _ (by simp), (mxO_spec hh).2 z hm⟩
  · have hm := mem_cut (i := ixOf x s + 1) (j := hi s x + 1) hz (by omega) (by omega) (by omega)
    cases hh : kidB s x with
    | none => exact absurd hm (by rw [mxO_none hh]; simp)
    | some w => exact ⟨w, List.mem_append_right _ (by simp), (mxO_spec hh).2 z hm⟩
theorem gc_some {s : List Int} {x c : Int} (nd : s.Nodup) (hx : x ∈ s) (h : gcO s x = some c) : inLot s x c ∧ ∀ z, inLot s x z → z ≤ c := by
  obtain ⟨h1, h2⟩ := mxO_spec h
  refine ⟨kid_in nd hx h1, fun z hz => ?_⟩
  obtain ⟨w, hw, hl⟩ := kid_le nd hx hz
  exact Int.le_trans hl (h2 w hw)
theorem gc_none {s : List Int} {x z : Int} (nd : s.Nodup) (hx : x ∈ s) (h : gcO s x = none) : ¬ inLot s x z := fun hz => by
  obtain ⟨w, hw, _⟩ := kid_le nd hx hz
  rw [mxO_none h] at hw
  cases hw
theorem apart_nest {f : Nat → Int} {n p L R q i j : Nat} (A : SpA f p L) (B : SpB f n p R) (hq : q < L ∨ R < q) (a : SpA f q i) (b : SpB f n q j) : (i ≤ L ∧ R ≤ j) ∨ j < L ∨ R < i := by
  obtain ⟨h1, h2⟩ := apart_cl A B hq a b
  have := A.1
  have := B.1
  have := B.2.1
  have := a.1
  have := b.1
  have := b.2.1
  rcases hq with hq | hq
  · by_cases c : j + 1 < n
    · have := h2 c; omega
    · omega
  · by_cases c : 0 < i
    · have := h1 c; omega
    · omega
theorem turn_inLot {s : List Int} {t x z : Int} (nd : s.Nodup) (ht : t ∈ s) (hx : x ∈ s) : inLot (turn s t) x z ↔ inLot s x z := by
  unfold inLot
  rw [turn_mem ht]
  by_cases hz : z ∈ s
  · by_cases n : z = x
    · simp [n]
    · simp only [hz, true_and, ne_eq, n, not_false_eq_true]
      have tl := lo_hi (s := s) (x := t)
      have zi : (ixOf z s < lo s t ∨ hi s t < ixOf z s) → ixOf z (turn s t) = ixOf z s := fun h => (turn_out nd ht hz h).2.2
      have zo : ¬ (ixOf z s < lo s t ∨ hi s t < ixOf z s) → ixOf z (turn s t) = lo s t + hi s t - ixOf z s := fun h => by
        by_cases e : z = t
        · subst e; exact (turn_self nd hz).2.2
        · exact (turn_in nd ht hz e (by omega) (by omega)).2.2.2
      by_cases c : ixOf x s < lo s t ∨ hi s t < ixOf x s
      · obtain ⟨e1, e2, _⟩ := turn_out nd ht hx c
        rw [e1, e2]
        have ne := apart_nest (sp_lo nd ht) (sp_hi nd ht) c (sp_lo nd hx) (sp_hi nd hx)
        by_cases d : ixOf z s < lo s t ∨ hi s t < ixOf z s
        · rw [zi d]
        · rw [zo d]; omega
      · by_cases e : x = t
        · subst e
          obtain ⟨e1, e2, _⟩ := turn_self nd hx
          rw [e1, e2]
          by_cases d : ixOf z s < lo s x ∨ hi s x < ixOf z s
          · rw [zi d]
          · rw [zo d]; omega
        · obtain ⟨⟨w1, w2⟩, e1, e2, _⟩ := turn_in nd ht hx e (by omega) (by omega)
          have := lo_hi (s := s) (x := x)
          rw [e1, e2]
          by_cases d : ixOf z s < lo s t ∨ hi s t < ixOf z s
          · rw [zi d]; omega
          · rw [zo d]; omega
  · simp [hz]
theorem turn_gc {s : List Int} {t x : Int} (nd : s.Nodup) (ht : t ∈ s) (hx : x ∈ s) : gcO (turn s t) x = gcO s x := by
  have nt := turn_nd ht nd
  have hx2 : x ∈ turn s t := (turn_mem ht).mpr hx
  cases h1 : gcO s x with
  | none =>
    cases h2 : gcO (turn s t) x with
    | none => rfl
    | some c => exact absurd ((turn_inLot nd ht hx).mp (gc_some nt hx2 h2).1) (gc_none nd hx h1)
  | some c =>
    obtain ⟨a1, a2⟩ := gc_some nd hx h1
    cases h2 : gcO (turn s t) x with
    | none => exact absurd ((turn_inLot nd ht hx).mpr a1) (gc_none nt hx2 h2)
    | some d =>
      obtain ⟨b1, b2⟩ := gc_some nt hx2 h2
      have := a2 d ((turn_inLot nd ht hx).mp b1)
      have := b2 c ((turn_inLot nd ht hx).mpr a1)
      congr 1
      omega
theorem turn_ix {s : List Int} {t z : Int} (nd : s.Nodup) (ht : t ∈ s) (hz : z ∈ s) : ixOf z (turn s t) = if ixOf z s < lo s t ∨ hi s t < ixOf z s then ixOf z s else lo s t + hi s t - ixOf z s := by
  by_cases d : ixOf z s < lo s t ∨ hi s t < ixOf z s
  · rw [if_pos d]; exact (turn_out nd ht hz d).2.2
  · rw [if_neg d]
    by_cases e : z = t
    · subst e; exact (turn_self nd hz).2.2
    · exact (turn_in nd ht hz e (by omega) (by omega)).2.2.2
theorem par_at {s : List Int} {x p : Int} (nd : s.Nodup) (hx : x ∈ s) (h : par s x = some p) : x < p ∧ ((0 < lo s x ∧ ixOf p s = lo s x - 1) ∨ (hi s x + 1 < s.length ∧ ixOf p s = hi s x + 1)) := by
  have a := sp_lo nd hx
  have b := sp_hi nd hx
  have m := (mnO_spec h).1
  have at0 := ix_at hx
  have g1 := hi_lt hx
  have g0 := lo_lt hx
  unfold clo aI bI at m
  rcases List.mem_append.mp m with m | m
  · by_cases c : 0 < lo s x
    · rw [if_pos c] at m
      have e : p = s.getD (lo s x - 1) 0 := List.mem_singleton.mp m
      have hk : lo s x - 1 < s.length := by omega
      rw [List.getD_eq_getElem?_getD, List.getElem?_eq_getElem hk] at e
      have e : p = s[lo s x - 1] := e
      refine ⟨?_, .inl ⟨c, by rw [e]; exact ix_inj nd hk⟩⟩
      have z : s.getD (ixOf x s) 0 < s.getD (lo s x - 1) 0 := a.2.2 c
      rw [at0, List.getD_eq_getElem?_getD, List.getElem?_eq_getElem hk] at z
      rw [e]; exact z
    · rw [if_neg c] at m; cases m
  · by_cases c : hi s x + 1 < s.length
    · rw [if_pos c] at m
      have e : p = s.getD (hi s x + 1) 0 := List.mem_singleton.mp m
      rw [List.getD_eq_getElem?_getD, List.getElem?_eq_getElem c] at e
      have e : p = s[hi s x + 1] := e
      refine ⟨?_, .inr ⟨c, by rw [e]; exact ix_inj nd c⟩⟩
      have z : s.getD (ixOf x s) 0 < s.getD (hi s x + 1) 0 := b.2.2.2 c
      rw [at0, List.getD_eq_getElem?_getD, List.getElem?_eq_getElem c] at z
      rw [e]; exact z
    · rw [if_neg c] at m; cases m
theorem par_within {s : List Int} {t x : Int} (nd : s.Nodup) (ht : t ∈ s) (h : inLot s t x) : ∃ p, par s x = some p ∧ p ∈ s ∧ lo s t ≤ ixOf p s ∧ ixOf p s ≤ hi s t := by
  obtain ⟨hx, n, h1, h2⟩ := h
  obtain ⟨⟨w1, w2⟩, _⟩ := turn_in nd ht hx n h1 h2
  have A := sp_lo nd ht
  have B := sp_hi nd ht
  have a := sp_lo nd hx
  have b := sp_hi nd hx
  have g1 := lo_le_ix s x
  have g2 := ix_le_hi s x
  have g3 := lo_le_ix s t
  have g4 := ix_le_hi s t
  have g5 := hi_lt ht
  have hq : ixOf x s ≠ ixOf t s := ix_ne ht hx n
  have le : ∀ k, lo s t ≤ k → k ≤ hi s t → s.getD k 0 ≤ s.getD (ixOf t s) 0 := fun k h1 h2 => by
    rcases Nat.lt_trichotomy k (ixOf t s) with h | h | h
    · exact Int.le_of_lt (A.2.1 k h1 h)
    · rw [h]; exact Int.le_refl _
    · exact Int.le_of_lt (B.2.2.1 k h h2)
  have tt := ix_at ht
  have inner : lo s t < lo s x ∨ hi s x < hi s t := Classical.byContradiction fun k => by
    have u1 : s.getD (ixOf t s) 0 < s.getD (ixOf x s) 0 := by
      rcases Nat.lt_or_gt_of_ne hq with h | h
      · exact b.2.2.1 _ h (by omega)
      · exact a.2.1 _ (by omega) h
    have u2 := le (ixOf x s) h1 h2
    omega
  -- one closer is at most t
  have one : ∃ c ∈ clo s x, c ≤ t := by
    unfold clo aI bI
    rcases inner with k | k
    · refine ⟨s.getD (lo s x - 1) 0, List.mem_append_left _ ?_, ?_⟩
      · rw [if_pos (by omega)]; simp
      · have := le (lo s x - 1) (by omega) (by omega)
        rwa [tt] at this
    · refine ⟨s.getD (hi s x + 1) 0, List.mem_append_right _ ?_, ?_⟩
      · rw [if_pos (by omega)]; simp
      · have := le (hi s x + 1) (by omega) (by omega)
        rwa [tt] at this
  cases hp : par s x with
  | none =>
    obtain ⟨c, hc, _⟩ := one
    rw [mnO_none hp] at hc
    cases hc
  | some p =>
    obtain ⟨c, hc, hct⟩ := one
    have pt : p ≤ t := Int.le_trans ((mnO_spec hp).2 c hc) hct
    have pm := par_mem hx p hp
    refine ⟨p, rfl, pm, ?_⟩
    obtain ⟨_, h | h⟩ := par_at nd hx hp
    · refine ⟨?_, by omega⟩
      refine Classical.byContradiction fun k => ?_
      have e : ixOf p s = lo s t - 1 := by omega
      have z : s.getD (ixOf t s) 0 < s.getD (lo s t - 1) 0 := A.2.2 (by omega)
      rw [tt, ← e, ix_at pm] at z
      omega
    · refine ⟨by omega, ?_⟩
      refine Classical.byContradiction fun k => ?_
      have e : ixOf p s = hi s t + 1 := by omega
      have z : s.getD (ixOf t s) 0 < s.getD (hi s t + 1) 0 := B.2.2.2 (by omega)
      rw [tt, ← e, ix_at pm] at z
      omega
theorem turn_sns {s : List Int} {t x : Int} (nd : s.Nodup) (ht : t ∈ s) (hx : x ∈ s) (h : lo s x < hi s x) : sns (turn s t) x = (sns s x != decide (x = t)) := by
  obtain ⟨c, hc, _⟩ := kids_ne hx h
  obtain ⟨⟨cm, cn, c1, c2⟩, _⟩ := gc_some nd hx hc
  have cne := ix_ne hx cm cn
  have tl := lo_hi (s := s) (x := t)
  have t1 := lo_le_ix s t
  have t2 := ix_le_hi s t
  unfold sns
  rw [turn_gc nd ht hx, turn_par nd ht hx, hc]
  simp only
  have ec := turn_ix nd ht cm
  have ex := turn_ix nd ht hx
  by_cases o : ixOf x s < lo s t ∨ hi s t < ixOf x s
  · -- apart: nothing changes
    have xt : x ≠ t := fun z => by subst z; omega
    rw [if_pos o] at ex
    have o1 : decide (ixOf c (turn s t) < ixOf x (turn s t)) = decide (ixOf c s < ixOf x s) := by
      rw [ex, ec, decide_eq_decide]
      split
      · exact Iff.rfl
      · omega
    have o2 : ahO (turn s t) x (par s x) = ahO s x (par s x) := by
      cases hp : par s x with
      | none => rfl
      | some p =>
        have ep := turn_ix nd ht (par_mem hx p hp)
        show decide (ixOf x (turn s t) < ixOf p (turn s t)) = decide (ixOf x s < ixOf p s)
        rw [ex, ep, decide_eq_decide]
        split
        · exact Iff.rfl
        · omega
    rw [o1, o2]
    simp [xt]
  · rw [if_neg o] at ex
    by_cases xt : x = t
    · subst xt
      have ci : ¬ (ixOf c s < lo s x ∨ hi s x < ixOf c s) := by omega
      rw [if_neg ci] at ec
      have o1 : decide (ixOf c (turn s x) < ixOf x (turn s x)) = !decide (ixOf c s < ixOf x s) := by
        rw [ex, ec, ← decide_not, decide_eq_decide]
        omega
      have o2 : ahO (turn s x) x (par s x) = ahO s x (par s x) := by
        cases hp : par s x with
        | none => rfl
        | some p =>
          have ep := turn_ix nd ht (par_mem hx p hp)
          obtain ⟨_, hh⟩ := par_at nd hx hp
          show decide (ixOf x (turn s x) < ixOf p (turn s x)) = decide (ixOf x s < ixOf p s)
          have po : ixOf p s < lo s x ∨ hi s x < ixOf p s := by omega
          rw [if_pos po] at ep
          rw [ex, ep, decide_eq_decide]
          omega
      rw [o1, o2]
      cases decide (ixOf c s < ixOf x s) <;> cases ahO s x (par s x) <;> simp
    · obtain ⟨⟨w1, w2⟩, _⟩ := turn_in nd ht hx xt (by omega) (by omega)
      have ci : ¬ (ixOf c s < lo s t ∨ hi s t < ixOf c s) := by omega
      rw [if_neg ci] at ec
      obtain ⟨p, hp, pm, p1, p2⟩ := par_within nd ht ⟨hx, xt, by omega, by omega⟩
      have ep := turn_ix nd ht pm
      rw [if_neg (by omega)] at ep
      have pn : ixOf x s ≠ ixOf p s := by
        obtain ⟨_, hh⟩ := par_at nd hx hp
        have := lo_le_ix s x
        have := ix_le_hi s x
        omega
      have o1 : decide (ixOf c (turn s t) < ixOf x (turn s t)) = !decide (ixOf c s < ixOf x s) := by
        rw [ex, ec, ← decide_not, decide_eq_decide]
        omega
      have o2 : ahO (turn s t) x (par s x) = !ahO s x (par s x) := by
        rw [hp]
        show decide (ixOf x (turn s t) < ixOf p (turn s t)) = !decide (ixOf x s < ixOf p s)
        rw [ex, ep, ← decide_not, decide_eq_decide]
        omega
      rw [o1, o2]
      cases decide (ixOf c s < ixOf x s) <;> cases ahO s x (par s x) <;> simp [xt]
def Od (s : List Int) (x y : Int) : Prop := ixOf x s < ixOf y s
theorem lt_notin {s : List Int} {x y : Int} (nd : s.Nodup) (hx : x ∈ s) (hy : y ∈ s) (h : x < y) : ixOf y s < lo s x ∨ hi s x < ixOf y s := Classical.byContradiction fun c => by
  have a := sp_lo nd hx
  have b := sp_hi nd hx
  have e1 := ix_at hx
  have e2 := ix_at hy
  rcases Nat.lt_trichotomy (ixOf y s) (ixOf x s) with h1 | h1 | h1
  · have z : s.getD (ixOf y s) 0 < s.getD (ixOf x s) 0 := a.2.1 _ (by omega) h1
    rw [e1, e2] at z; omega
  · rw [← e1, ← e2, h1] at h; omega
  · have z : s.getD (ixOf y s) 0 < s.getD (ixOf x s) 0 := b.2.2.1 _ h1 (by omega)
    rw [e1, e2] at z; omega
theorem ix_eq_of {s : List Int} {x y : Int} (hx : x ∈ s) (hy : y ∈ s) (h : ixOf x s = ixOf y s) : x = y := by rw [← ix_at hx, ← ix_at hy, h]
theorem od_up {s : List Int} {x y p : Int} (nd : s.Nodup) (hx : x ∈ s) (hy : y ∈ s) (h : x < y) (hp : par s x = some p) (n : y ≠ p) : Od s x y ↔ Od s p y := by
  have o := lt_notin nd hx hy h
  have pm := par_mem hx p hp
  have ne : ixOf y s ≠ ixOf p s := fun z => n (ix_eq_of hy pm z)
  obtain ⟨_, hh⟩ := par_at nd hx hp
  have := lo_le_ix s x
  have := ix_le_hi s x
  unfold Od
  omega
theorem od_up' {s : List Int} {x y p : Int} (nd : s.Nodup) (hx : x ∈ s) (hy : y ∈ s) (h : x < y) (hp : par s x = some p) (n : y ≠ p) : Od s y x ↔ Od s y p := by
  have o := lt_notin nd hx hy h
  have pm := par_mem hx p hp
  have ne : ixOf y s ≠ ixOf p s := fun z => n (ix_eq_of hy pm z)
  obtain ⟨_, hh⟩ := par_at nd hx hp
  have := lo_le_ix s x
  have := ix_le_hi s x
  unfold Od
  omega
theorem par_ex {s : List Int} {x y : Int} (nd : s.Nodup) (hx : x ∈ s) (hy : y ∈ s) (h : x < y) : ∃ p, par s x = some p := by
  cases hp : par s x with
  | some p => exact ⟨p, rfl⟩
  | none =>
    exfalso
    have o := lt_notin nd hx hy h
    have e := mnO_none hp
    have := ixOf_lt hy
    unfold clo aI bI at e
    have e1 := (List.append_eq_nil_iff.mp e).1
    have e2 := (List.append_eq_nil_iff.mp e).2
    by_cases c1 : 0 < lo s x
    · rw [if_pos c1] at e1; cases e1
    · by_cases c2 : hi s x + 1 < s.length
      · rw [if_pos c2] at e2; cases e2
      · omega
theorem od_det {s t : List Int} (ns : s.Nodup) (nt : t.Nodup) (m : ∀ x, x ∈ s ↔ x ∈ t) (hp : ∀ x ∈ s, par s x = par t x) (ho : ∀ x p, x ∈ s → par s x = some p → (Od s x p ↔ Od t x p)) :
    ∀ (k : Nat) (x y : Int), x ∈ s → y ∈ s → x ≠ y → (s.filter fun z => decide (x < z)).length + (s.filter fun z => decide (y < z)).length ≤ k → (Od s x y ↔ Od t x y) := by
  have dec : ∀ x p : Int, p ∈ s → x < p → (s.filter fun z => decide (p < z)).length < (s.filter fun z => decide (x < z)).length := fun x p pm h => by
    have sub : ((s.filter fun z => decide (x < z)).filter fun z => decide (p < z)) = s.filter fun z => decide (p < z) := by
      rw [List.filter_filter]
      refine List.filter_congr fun z _ => ?_
      by_cases c : p < z
      · have : x < z := by omega
        simp [c, this]
      · simp [c]
    rw [← sub]
    refine Nat.lt_of_le_of_ne (List.length_filter_le _ _) fun e => ?_
    have := List.length_filter_eq_length_iff.mp e p (List.mem_filter.mpr ⟨pm, by simpa using h⟩)
    simp at this
  intro k
  induction k with
  | zero =>
    intro x y hx hy n hk
    exfalso
    rcases Int.lt_or_gt_of_ne n with h | h
    · have := dec x y hy h; omega
    · have := dec y x hx h; omega
  | succ k ih =>
    intro x y hx hy n hk
    rcases Int.lt_or_gt_of_ne n with h | h
    · obtain ⟨p, e⟩ := par_ex ns hx hy h
      have pm := par_mem hx p e
      by_cases c : y = p
      · subst c; exact ho x y hx e
      · have xp := (par_at ns hx e).1
        rw [od_up ns hx hy h e c, od_up nt ((m x).mp hx) ((m y).mp hy) h ((hp x hx) ▸ e) c]
        have := dec x p pm xp
        exact ih p y pm hy (Ne.symm c) (by omega)
    · have h : y < x := h
      obtain ⟨p, e⟩ := par_ex ns hy hx h
      have pm := par_mem hy p e
      by_cases c : x = p
      · subst c
        have w := ho y x hy e
        have n1 : ixOf x s ≠ ixOf y s := fun z => n (ix_eq_of hx hy z)
        have n2 : ixOf x t ≠ ixOf y t := fun z => n (ix_eq_of ((m x).mp hx) ((m y).mp hy) z)
        unfold Od at w ⊢
        omega
      · have xp := (par_at ns hy e).1
        rw [od_up' ns hy hx h e c, od_up' nt ((m y).mp hy) ((m x).mp hx) h ((hp y hy) ▸ e) c]
        have := dec y p pm xp
        exact ih x p hx pm c (by omega)
theorem eq_of_od {s t : List Int} (ns : s.Nodup) (nt : t.Nodup) (m : ∀ x, x ∈ s ↔ x ∈ t) (ho : ∀ x y, x ∈ s → y ∈ s → x ≠ y → (Od s x y ↔ Od t x y)) : s = t := by
  have pm : s.Perm t := (List.perm_ext_iff_of_nodup ns nt).mpr m
  have sp : s.Pairwise (Od s) := by
    rw [List.pairwise_iff_getElem]
    intro i j hi hj hij
    unfold Od
    rw [ix_inj ns hi, ix_inj ns hj]
    exact hij
  have tp : t.Pairwise (Od s) := by
    rw [List.pairwise_iff_getElem]
    intro i j hi hj hij
    have hi2 : t[i] ∈ s := (m _).mpr (List.getElem_mem hi)
    have hj2 : t[j] ∈ s := (m _).mpr (List.getElem_mem hj)
    have o : Od t t[i] t[j] := by
      unfold Od
      rw [ix_inj nt hi, ix_inj nt hj]
      exact hij
    refine (ho _ _ hi2 hj2 fun e => ?_).mpr o
    unfold Od at o
    rw [e] at o
    omega
  exact pm.eq_of_pairwise (fun a b _ _ h1 h2 => by unfold Od at h1 h2; omega) sp tp
theorem par_of_in {s : List Int} {x p : Int} (nd : s.Nodup) (hx : x ∈ s) (h : par s x = some p) : inLot s p x := by
  have pm := par_mem hx p h
  obtain ⟨lt, hh⟩ := par_at nd hx h
  have a := sp_lo nd hx
  have b := sp_hi nd hx
  have A := sp_lo nd pm
  have B := sp_hi nd pm
  have e1 := ix_at hx
  have e2 := ix_at pm
  have g1 := lo_le_ix s x
  have g2 := ix_le_hi s x
  have g3 := lo_le_ix s p
  have g4 := ix_le_hi s p
  have g5 := hi_lt hx
  have le : ∀ k, lo s x ≤ k → k ≤ hi s x → s.getD k 0 < p := fun k h1 h2 => by
    rcases Nat.lt_trichotomy k (ixOf x s) with h | h | h
    · have z : s.getD k 0 < s.getD (ixOf x s) 0 := a.2.1 k h1 h
      omega
    · rw [h, e1]; exact lt
    · have z : s.getD k 0 < s.getD (ixOf x s) 0 := b.2.2.1 k h h2
      omega
  refine ⟨hx, fun z => by omega, ?_, ?_⟩
  · refine Classical.byContradiction fun c => ?_
    rcases hh with ⟨h0, h1⟩ | ⟨h0, h1⟩
    · omega
    · have z : s.getD (ixOf p s) 0 < s.getD (lo s p - 1) 0 := A.2.2 (by omega)
      have := le (lo s p - 1) (by omega) (by omega)
      omega
  · refine Classical.byContradiction fun c => ?_
    rcases hh with ⟨h0, h1⟩ | ⟨h0, h1⟩
    · have z : s.getD (ixOf p s) 0 < s.getD (hi s p + 1) 0 := B.2.2.2 (by omega)
      have := le (hi s p + 1) (by omega) (by omega)
      omega
    · omega
theorem gc_par {s : List Int} {p g : Int} (nd : s.Nodup) (hp : p ∈ s) (h : gcO s p = some g) : par s g = some p := by
  obtain ⟨⟨gm, gn, g1, g2⟩, gmax⟩ := gc_some nd hp h
  obtain ⟨q, hq, qm, q1, q2⟩ := par_within nd hp ⟨gm, gn, g1, g2⟩
  have gq := (par_at nd gm hq).1
  by_cases c : q = p
  · rw [c] at hq; exact hq
  · have := gmax q ⟨qm, c, q1, q2⟩
    omega
theorem kids_apart {s : List Int} {c d p : Int} (nd : s.Nodup) (hc : c ∈ s) (hd : d ∈ s) (n : c ≠ d) (h1 : par s c = some p) (h2 : par s d = some p) : Od s c p ↔ ¬ Od s d p := by
  have pm := par_mem hc p h1
  obtain ⟨_, a⟩ := par_at nd hc h1
  obtain ⟨_, b⟩ := par_at nd hd h2
  have k1 := lo_le_ix s c
  have k2 := ix_le_hi s c
  have k3 := lo_le_ix s d
  have k4 := ix_le_hi s d
  have no : ∀ {u v : Int}, u ∈ s → v ∈ s → u ≠ v → par s v = some p → ixOf p s < lo s u ∨ hi s u < ixOf p s → ¬ (lo s u ≤ ixOf v s ∧ ixOf v s ≤ hi s u) := fun {u v} hu hv uv hvp po z => by
    obtain ⟨q, hq, _, q1, q2⟩ := par_within nd hu ⟨hv, Ne.symm uv, z.1, z.2⟩
    rw [hvp] at hq
    cases hq
    omega
  have n1 := no hc hd n h2 (by omega)
  have n2 := no hd hc (Ne.symm n) h1 (by omega)
  unfold Od
  omega
theorem gc_same {s t : List Int} (ns : s.Nodup) (nt : t.Nodup) (m : ∀ x, x ∈ s ↔ x ∈ t) (hp : ∀ x ∈ s, par s x = par t x) {p : Int} (pm : p ∈ s) : gcO s p = gcO t p := by
  have one : ∀ {a b : List Int}, a.Nodup → b.Nodup → (∀ x, x ∈ a ↔ x ∈ b) → (∀ x ∈ a, par a x = par b x) → p ∈ a → ∀ g, gcO a p = some g → ∃ w, gcO b p = some w ∧ g ≤ w := fun {a b} na nb m hp pm g hg => by
    obtain ⟨⟨gm, _⟩, _⟩ := gc_some na pm hg
    have e := gc_par na pm hg
    rw [hp g gm] at e
    have i := par_of_in nb ((m g).mp gm) e
    cases hw : gcO b p with
    | none => exact absurd i (gc_none nb ((m p).mp pm) hw)
    | some w => exact ⟨w, rfl, (gc_some nb ((m p).mp pm) hw).2 g i⟩
  cases h1 : gcO s p with
  | none =>
    cases h2 : gcO t p with
    | none => rfl
    | some g =>
      obtain ⟨w, hw, _⟩ := one nt ns (fun x => (m x).symm) (fun x hx => (hp x ((m x).mpr hx)).symm) ((m p).mp pm) g h2
      rw [h1] at hw; cases hw
  | some g =>
    obtain ⟨w, hw, gw⟩ := one ns nt m hp pm g h1
    obtain ⟨v, hv, wv⟩ := one nt ns (fun x => (m x).symm) (fun x hx => (hp x ((m x).mpr hx)).symm) ((m p).mp pm) w hw
    rw [h1] at hv
    cases hv
    rw [hw]
    congr 1
    omega
theorem kid_det {s t : List Int} {e' : Int} (ns : s.Nodup) (nt : t.Nodup) (m : ∀ x, x ∈ s ↔ x ∈ t) (hp : ∀ x ∈ s, par s x = par t x) (hs : ∀ x ∈ s, sideI s e' x = sideI t e' x) (hn : ∀ x ∈ s, flag s e' x = false → lo s x < hi s x → sns s x = sns t x) :
    ∀ (k : Nat) (c p : Int), c ∈ s → par s c = some p → (s.filter fun z => decide (p < z)).length < k → (Od s c p ↔ Od t c p) := by
  have dec : ∀ x p : Int, p ∈ s → x < p → (s.filter fun z => decide (p < z)).length < (s.filter fun z => decide (x < z)).length := fun x p pm h => by
    have sub : ((s.filter fun z => decide (x < z)).filter fun z => decide (p < z)) = s.filter fun z => decide (p < z) := by
      rw [List.filter_filter]
      refine List.filter_congr fun z _ => ?_
      by_cases c : p < z
      · have : x < z := by omega
        simp [c, this]
      · simp [c]
    rw [← sub]
    refine Nat.lt_of_le_of_ne (List.length_filter_le _ _) fun e => ?_
    have := List.length_filter_eq_length_iff.mp e p (List.mem_filter.mpr ⟨pm, by simpa using h⟩)
    simp at this
  intro k
  induction k with
  | zero =>
    intro c p hc e hk
    exact absurd hk (Nat.not_lt_zero _)
  | succ k ih =>
    intro c p hc e hk
    have pm := par_mem hc p e
    have ct := (m c).mp hc
    have pt := (m p).mp pm
    have et : par t c = some p := (hp c hc) ▸ e
    have sd := hs c hc
    unfold sideI at sd
    rw [e, et] at sd
    have sd : (if flag s e' p = true then (if ixOf c s < ixOf p s then (0 : Int) else 1) else -1) = if flag t e' p = true then (if ixOf c t < ixOf p t then 0 else 1) else -1 := sd
    by_cases f1 : flag s e' p = true
    · rw [if_pos f1] at sd
      by_cases f2 : flag t e' p = true
      · rw [if_pos f2] at sd
        unfold Od
        by_cases d1 : ixOf c s < ixOf p s <;> by_cases d2 : ixOf c t < ixOf p t
        · simp [d1, d2]
        · rw [if_pos d1, if_neg d2] at sd; omega
        · rw [if_neg d1, if_pos d2] at sd; omega
        · simp [d1, d2]
      · rw [if_neg f2] at sd
        split at sd <;> omega
    · rw [if_neg f1] at sd
      have f2 : ¬ flag t e' p = true := fun f2 => by
        rw [if_pos f2] at sd
        split at sd <;> omega
      have il := par_of_in ns hc e
      have nc : ixOf c s ≠ ixOf p s := ix_ne pm hc il.2.1
      have ll : lo s p < hi s p := by
        have := il.2.2
        have := lo_le_ix s p
        have := ix_le_hi s p
        omega
      obtain ⟨g, hg, gm⟩ := kids_ne pm ll
      have hgt : gcO t p = some g := by rw [← gc_same ns nt m hp pm]; exact hg
      have sn := hn p pm (by simpa using f1) ll
      unfold sns at sn
      rw [hg, hgt] at sn
      have sn : (decide (ixOf g s < ixOf p s) != ahO s p (par s p)) = (decide (ixOf g t < ixOf p t) != ahO t p (par t p)) := sn
      have ah : ahO s p (par s p) = ahO t p (par t p) := by
        rw [← hp p pm]
        cases hq : par s p with
        | none => rfl
        | some q =>
          have lt := (par_at ns pm hq).1
          have qm := par_mem pm q hq
          have := dec p q qm lt
          have w := ih p q pm hq (by omega)
          show decide (ixOf p s < ixOf q s) = decide (ixOf p t < ixOf q t)
          exact decide_eq_decide.mpr w
      rw [ah] at sn
      have og : Od s g p ↔ Od t g p := by
        unfold Od
        cases h1 : decide (ixOf g s < ixOf p s) <;> cases h2 : decide (ixOf g t < ixOf p t) <;> cases h3 : ahO t p (par t p) <;> rw [h1, h2, h3] at sn <;> simp at sn <;> simp at h1 h2 <;> omega
      by_cases cg : c = g
      · rw [cg]; exact og
      · have gp := gc_par ns pm hg
        rw [kids_apart ns hc gm cg e gp, kids_apart nt ct ((m g).mp gm) cg et (gc_par nt pt hgt), og]
theorem row_det {s t : List Int} {e : Int} (ns : s.Nodup) (nt : t.Nodup) (m : ∀ x, x ∈ s ↔ x ∈ t) (hp : ∀ x ∈ s, par s x = par t x) (hs : ∀ x ∈ s, sideI s e x = sideI t e x) (hn : ∀ x ∈ s, flag s e x = false → lo s x < hi s x → sns s x = sns t x) : s = t :=
  eq_of_od ns nt m fun x y hx hy n => od_det ns nt m hp (fun c p hc hcp => kid_det ns nt m hp hs hn _ c p hc hcp (Nat.lt_succ_self _)) _ x y hx hy n (Nat.le_refl _)
structure JOk (A : List Int) (t : Int) (B : List Int) : Prop where
  nd : (A ++ B).Nodup
  up : ∀ x ∈ A ++ B, x < t
section
variable {A B : List Int} {t : Int}
end
theorem heads_iff {s : List Int} {e x : Int} : x ∈ heads s e ↔ x ∈ s ∧ head s e x = true := by
  unfold heads
  rw [List.mem_filter, (sortI_perm s).mem_iff]
theorem heads_nd {s : List Int} {e : Int} (nd : s.Nodup) : (heads s e).Nodup := List.Pairwise.filter _ ((sortI_perm s).nodup_iff.mpr nd)
theorem free_nd {s : List Int} {e : Int} {r : Option (List Int)} (nd : s.Nodup) : (free s e r).Nodup := List.Pairwise.filter _ (heads_nd nd)
section
variable {A B : List Int} {t x : Int}
end
end K54
namespace K54
open PySem TV
theorem add_lstI (a b : List Int) (h : a.length + b.length ≤ 1000) : dAdd [.lst (a.map .int), .lst (b.map .int)] = some (.lst ((a ++ b).map .int)) := by
  have : a.length + b.length ≤ 16777216 := by omega
  simp [dAdd, sizeLine_eq, this]
theorem sort_lst (s : List Int) : dSort [.lst (s.map .int)] = some (.lst ((sortI s).map .int)) := by
  simp [dSort, dOr, dSortL, dLInts, dSortT, dTInts, dInts_map]
theorem d_neI (x y : Int) : dNe [.int x, .int y] = some (.bl (!decide (x = y))) := by
  by_cases c : x = y
  · subst c
    rw [decide_eq_true rfl]
    exact d_neS (nice_int 8 x)
  · rw [decide_eq_false c]
    have : PyData.eqv (.int x) (.int y) = false := by
      show decide (x = y) = false
      exact decide_eq_false c
    exact (d_neU (p := .int x) (q := .int y) rfl rfl rfl rfl this).1
end K54
namespace K54
open PySem TV
theorem lt_len {s : List Int} {x : Int} : lo s x < hi s x ↔ 1 < len s x := by unfold len; omega
structure Kept (s u : List Int) (e : Int) : Prop where
  mem : ∀ y, y ∈ u ↔ y ∈ s
  par : ∀ y ∈ s, par u y = par s y
  side : ∀ y ∈ s, sideI u e y = sideI s e y
  flag : ∀ y ∈ s, flag u e y = flag s e y
  len : ∀ y ∈ s, len u y = len s y
theorem Kept.refl (s : List Int) (e : Int) : Kept s s e := ⟨fun _ => Iff.rfl, fun _ _ => rfl, fun _ _ => rfl, fun _ _ => rfl, fun _ _ => rfl⟩
theorem kept_turn {s u : List Int} {e x : Int} (k : Kept s u e) (nu : u.Nodup) (hx : x ∈ u) (hf : flag u e x = false) : Kept s (turn u x) e where
  mem := fun y => (turn_mem hx).trans (k.mem y)
  par := fun y hy => (turn_par nu hx ((k.mem y).mpr hy)).trans (k.par y hy)
  side := fun y hy => (turn_side nu hx ((k.mem y).mpr hy) hf).trans (k.side y hy)
  flag := fun y hy => (turn_flag nu hx ((k.mem y).mpr hy) hf).trans (k.flag y hy)
  len := fun y hy => (turn_lenL nu hx ((k.mem y).mpr hy)).trans (k.len y hy)
theorem free_flag {s : List Int} {e x : Int} {r : Option (List Int)} (h : x ∈ free s e r) : flag s e x = false := head_flag (List.mem_filter.mp (List.mem_filter.mp h).1).2
theorem fold_kept {s : List Int} {e : Int} {r : Option (List Int)} (os : okS s) (l : List Int) (hl : ∀ x ∈ l, x ∈ free s e r) : okS (l.foldl turn s) ∧ free (l.foldl turn s) e r = free s e r ∧ Kept s (l.foldl turn s) e :=
  run_keeps (P := fun u => Kept s u e) os (Kept.refl s e) (fun u x ou _ hx k => kept_turn k ou.1 (free_mem hx) (free_flag hx)) l hl
theorem fold_sns {e : Int} {r : Option (List Int)} : ∀ (l : List Int) (s : List Int), okS s → (∀ x ∈ l, x ∈ free s e r) → l.Nodup → ∀ y ∈ s, lo s y < hi s y → sns (l.foldl turn s) y = (sns s y != decide (y ∈ l))
  | [], s, _, _, _, y, _, _ => by simp
  | x :: l, s, os, h, nd, y, hy, hlt => by
    have hx := h x List.mem_cons_self
    have xm := free_mem hx
    have fr : free (turn s x) e r = free s e r := turn_free os.1 xm (free_flag hx)
    have hy2 : y ∈ turn s x := (turn_mem xm).mpr hy
    have hlt2 : lo (turn s x) y < hi (turn s x) y := by rw [lt_len, turn_lenL os.1 xm hy, ← lt_len]; exact hlt
    have ih := fold_sns l (turn s x) (turn_okS xm os) (fun z hz => by rw [fr]; exact h z (List.mem_cons_of_mem _ hz)) (List.nodup_cons.mp nd).2 y hy2 hlt2
    rw [List.foldl_cons, ih, turn_sns os.1 xm hy hlt]
    have nx := (List.nodup_cons.mp nd).1
    by_cases c : y = x
    · subst c
      simp [nx]
    · by_cases d : y ∈ l
      · simp [c, d]
      · simp [c, d]
theorem oD_inj {a b : Option Int} (h : oD a = oD b) : a = b := by
  cases a <;> cases b <;> first | rfl | (cases h; done) | (cases h; rfl)
theorem shape_parts {s t : List Int} {e : Int} (ns : s.Nodup) (nt : t.Nodup) (m : ∀ x, x ∈ s ↔ x ∈ t) (h : shapeD s e = shapeD t e) : ∀ x ∈ s, par s x = par t x ∧ sideI s e x = sideI t e x := fun x hx => by
  have es : sortI s = sortI t := sortI_perm_eq ((List.perm_ext_iff_of_nodup ns nt).mpr m)
  unfold shapeD at h
  rw [es] at h
  have := List.map_inj_left.mp h x ((sortI_perm t).mem_iff.mpr ((m x).mp hx))
  unfold shpD at this
  injection this with h1
  injection h1 with h2 h3
  injection h3 with h4 h5
  injection h5 with h6 h7
  injection h6 with h8
  exact ⟨oD_inj h4, h8⟩
theorem class_reach {s t : List Int} {e : Int} {r : Option (List Int)} (os : okS s) (nt : t.Nodup) (m : ∀ x, x ∈ s ↔ x ∈ t) (hk : shapeD s e = shapeD t e) (hh : ∀ x ∈ heads s e, x ∉ free s e r → sns s x = sns t x) :
    ((free s e r).filter fun x => sns s x != sns t x).foldl turn s = t := by
  have sub : ∀ x ∈ (free s e r).filter (fun x => sns s x != sns t x), x ∈ free s e r := fun x hx => (List.mem_filter.mp hx).1
  obtain ⟨ou, _, k⟩ := fold_kept os _ sub
  have sp := shape_parts os.1 nt m hk
  have nl : ((free s e r).filter fun x => sns s x != sns t x).Nodup := List.Pairwise.filter _ (free_nd os.1)
  refine row_det (e := e) ou.1 nt (fun x => (k.mem x).trans (m x)) (fun x hx => ?_) (fun x hx => ?_) fun x hx hf hl => ?_
  · have hs := (k.mem x).mp hx
    rw [k.par x hs]; exact (sp x hs).1
  · have hs := (k.mem x).mp hx
    rw [k.side x hs]; exact (sp x hs).2
  · have hs := (k.mem x).mp hx
    rw [k.flag x hs] at hf
    have hl : lo s x < hi s x := by rw [lt_len, ← k.len x hs, ← lt_len]; exact hl
    rw [fold_sns _ s os sub nl x hs hl]
    have hd : x ∈ heads s e := heads_iff.mpr ⟨hs, by
      unfold head
      rw [hf]
      simp
      omega⟩
    by_cases c : x ∈ free s e r
    · have : decide (x ∈ (free s e r).filter fun x => sns s x != sns t x) = (sns s x != sns t x) := by
        rw [Bool.eq_iff_iff, decide_eq_true_eq, List.mem_filter]
        simp [c]
      rw [this]
      cases sns s x <;> cases sns t x <;> rfl
    · have : decide (x ∈ (free s e r).filter fun x => sns s x != sns t x) = false := decide_eq_false fun z => c (sub x z)
      rw [this, hh x hd c]
      simp
end K54
namespace K54
open PySem TV
theorem shape_kept {s t : List Int} {e : Int} (os : okS s) (nt : t.Nodup) (m : ∀ x, x ∈ s ↔ x ∈ t) (hk : shapeD s e = shapeD t e) : Kept s t e := by
  have c := class_reach (r := none) os nt m hk (fun x hx n => absurd (List.mem_filter.mpr ⟨hx, rfl⟩) n)
  rw [← c]
  exact (fold_kept (r := none) os _ fun x hx => (List.mem_filter.mp hx).1).2.2
theorem kept_heads {s t : List Int} {e : Int} (ns : s.Nodup) (nt : t.Nodup) (k : Kept s t e) : heads t e = heads s e := by
  have es : sortI t = sortI s := sortI_perm_eq ((List.perm_ext_iff_of_nodup nt ns).mpr fun x => k.mem x)
  unfold heads
  rw [es]
  refine List.filter_congr fun x hx => ?_
  have hx := (sortI_perm s).mem_iff.mp hx
  have a := k.flag x hx
  have b := k.len x hx
  unfold len at b
  unfold head
  rw [a, b]
theorem kept_free {s t : List Int} {e : Int} {r : Option (List Int)} (ns : s.Nodup) (nt : t.Nodup) (k : Kept s t e) : free t e r = free s e r := by
  unfold free
  rw [kept_heads ns nt k]
  exact List.filter_congr fun x hx => by rw [k.len x (heads_mem hx)]
theorem kept_held {s t : List Int} {e : Int} {r : Option (List Int)} (ns : s.Nodup) (nt : t.Nodup) (k : Kept s t e) : held t e r = held s e r := by
  unfold held
  rw [kept_heads ns nt k]
  exact List.filter_congr fun x hx => by rw [k.len x (heads_mem hx)]
def Kin (s t : List Int) (e : Int) (r : Option (List Int)) : Prop := shapeD s e = shapeD t e ∧ ∀ x ∈ held s e r, sns s x = sns t x
theorem Kin.kept {s t : List Int} {e : Int} {r : Option (List Int)} (k : Kin s t e r) (os : okS s) (nt : t.Nodup) (m : ∀ x, x ∈ s ↔ x ∈ t) : Kept s t e := shape_kept os nt m k.1
theorem Kin.refl (s : List Int) (e : Int) (r : Option (List Int)) : Kin s s e r := ⟨rfl, fun _ _ => rfl⟩
theorem Kin.symm {s t : List Int} {e : Int} {r : Option (List Int)} (k : Kin s t e r) (os : okS s) (nt : t.Nodup) (m : ∀ x, x ∈ s ↔ x ∈ t) : Kin t s e r := ⟨k.1.symm, fun x hx => by
  rw [kept_held os.1 nt (k.kept os nt m)] at hx
  exact (k.2 x hx).symm⟩
theorem Kin.trans {s t u : List Int} {e : Int} {r : Option (List Int)} (k : Kin s t e r) (l : Kin t u e r) (os : okS s) (nt : t.Nodup) (m : ∀ x, x ∈ s ↔ x ∈ t) : Kin s u e r := ⟨k.1.trans l.1, fun x hx => (k.2 x hx).trans (l.2 x (by rw [kept_held os.1 nt (k.kept os nt m)]; exact hx))⟩
end K54
namespace K54
open PySem TV
structure Wider (e e' : Int) (r r' : Option (List Int)) : Prop where
  a : e = 1 ∨ e = 3 → e' = 1 ∨ e' = 3
  b : 2 ≤ e → 2 ≤ e'
  r : ∀ n, letsB r n = true → letsB r' n = true
end K54
namespace K54
open PySem TV
structure Class (s t : List Int) (e : Int) (r : Option (List Int)) : Prop where
  ok : okS t
  mem : ∀ x, x ∈ s ↔ x ∈ t
  kin : Kin s t e r
theorem Class.fr {s t : List Int} {e : Int} {r : Option (List Int)} (c : Class s t e r) (os : okS s) : free t e r = free s e r := kept_free os.1 c.ok.1 (c.kin.kept os c.ok.1 c.mem)
theorem Class.symm {s t : List Int} {e : Int} {r : Option (List Int)} (c : Class s t e r) (os : okS s) : Class t s e r := ⟨os, fun x => (c.mem x).symm, c.kin.symm os c.ok.1 c.mem⟩
theorem Class.trans {s t u : List Int} {e : Int} {r : Option (List Int)} (c : Class s t e r) (d : Class t u e r) (os : okS s) : Class s u e r := ⟨d.ok, fun x => (c.mem x).trans (d.mem x), c.kin.trans d.kin os c.ok.1 c.mem⟩
theorem Class.refl {s : List Int} {e : Int} {r : Option (List Int)} (os : okS s) : Class s s e r := ⟨os, fun _ => Iff.rfl, Kin.refl s e r⟩
end K54
namespace K54
open PySem TV
theorem lc_map {α : Type} {vs : List Nat} {i : Nat} {t : MT} {u : ME} {f g : α → D} {b : α → Bool} {ρ : TV.Env} : ∀ (xs : List α) (acc : List D), (∀ a ∈ xs, t (ρ.set i (some (f a))) = .ok (b a, ρ.set i (some (f a))) ∧ (b a = true → u (ρ.set i (some (f a))) = .ok (g a, ρ.set i (some (f a))) ∧ (g a).own = false) ∧ wipeE (ρ.set i (some (f a))) vs = ρ) → acc.length + xs.length ≤ sizeLine →
    lcL vs (gN i) t u (xs.map f) ρ acc = .ok (.lst (acc ++ (xs.filter b).map g), ρ)
  | [], acc, _, _ => by simp [lcL]
  | a :: xs, acc, h, hz => by
    obtain ⟨h1, h2, h3⟩ := h a List.mem_cons_self
    have hr := fun d' hd => h d' (List.mem_cons_of_mem _ hd)
    rw [List.length_cons] at hz
    rw [List.map_cons]
    unfold lcL
    cases c : b a with
    | true =>
      obtain ⟨h4, h5⟩ := h2 c
      simp only [a_gN, h1, c, h4, h5, h3]
      rw [if_pos ⟨trivial, by omega⟩, lc_map xs (acc ++ [g a]) hr (by rw [List.length_append, List.length_cons, List.length_nil]; omega)]
      simp [c]
    | false =>
      simp only [a_gN, h1, c, h3]
      rw [lc_map xs acc hr (by omega)]
      simp [c]
@[elab_as_elim] theorem gen1 {α : Type} {P : α → Prop} (a : α) (h : ∀ x, P x) : P a := h a
theorem app_int (xs : List Int) (x : Int) (h : xs.length < 1000000) : fAppend (xs.map .int) [.int x] = some ((xs ++ [x]).map .int, .non) := by
  have l : xs.length < sizeLine := by rw [sizeLine_eq]; omega
  simp [fAppend, own_int, l]
theorem len_lst (F : List Int) : dLen [.lst (F.map .int)] = some (.int F.length) := by
  show some (D.int (((F.map D.int).length : Nat))) = _
  rw [List.length_map]
end K54
namespace K54
open PySem TV
def cb (n k : Nat) : Int := PySem.W.mcComb n k
theorem cb_pos {n k : Nat} (h : k ≤ n) : 0 ≤ cb n k := by
  have := PySem.W.mcComb_pos (a := (n : Int)) (b := (k : Int)) (by omega) (by omega)
  unfold cb
  omega
theorem cb_le : ∀ n ∈ List.range 61, ∀ k ∈ List.range (n + 1), cb n k < 2 ^ 60 := by decide +kernel
theorem e_waysN (n k : Nat) (hk : k ≤ n) (hn : n ≤ 1000) : F_ways [some (.int (n : Nat)), some (.int (k : Nat))] = .ok (.int (cb n k), [some (.int (n : Nat)), some (.int (k : Nat))]) := by
  have c : dComb [.int (n : Nat), .int (k : Nat)] = some (.int (cb n k)) := by
    show (if 0 ≤ ((n : Nat) : Int) ∧ 0 ≤ ((k : Nat) : Int) ∧ ((n : Nat) : Int) ≤ 1000 ∧ ((k : Nat) : Int) ≤ 1000 then some (D.int (PySem.W.mcComb n k)) else none) = _
    rw [if_pos ⟨by omega, by omega, by omega, by omega⟩]
    rfl
  have h1 : decide ((0 : Int) ≤ ((k : Nat) : Int)) = true := decide_eq_true (by omega)
  have h2 : decide (((k : Nat) : Int) ≤ ((n : Nat) : Int)) = true := decide_eq_true (by omega)
  unfold F_ways m_ways
  generalize cb n k = C at *
  generalize ((k : Nat) : Int) = K at *
  generalize ((n : Nat) : Int) = N at *
  revert c
  refine gen1 dComb ?_; intro d1 c
  simp [b_ok, b_stuck, b_exc, a_def, f_ok, f_exc, k_rt, k_nx, a_do, a_set, a_set2, a_drop, a_ret, a_unp, a_seq, k_seq, k_seqr, k_seqb, k_seqc, a_op, k_op, a_c, a_var, a_b, k_b, a_then, k_and1, k_and0, k_or1, k_or0, k_andV1, k_andV0, k_orV1, k_orV0, k_if1, k_if0, k_ifS1, k_ifS0, k_ifT1, k_ifT0, k_notV, k_not, a_yes, a_no, a_next, a_never, a_par, k_par, a_for, k_for, a_i1, k_i1, a_io, k_io, a_call, k_call, a_callP, k_callP, a_chain, k_chain, a_mut, k_mut, a_sto, k_sto, a_lc, k_lc, a_new, a_gN, a_gT, d_lt, d_le, d_gt, d_ge, d_intB, ev, rds, chk, pAny, pTup, pInt, takeA, wbE, permL, padE, outE, gNs, own_int, own_bl, own_str, own_non, own_tup, own_ins, own_frl, own_lst, own_dic, dTup, dLst, dAdd, dSub, dMulS, dDiv, dMod, dNeg, dInt, dAbs, dIsN, dNotN, D.isNon, dLen, dItems, dIx, dTru, D.tru, D.seq, fSetL, fAppend, sizeLine_eq, rg1, rg2, rg3, rg4, rg5, rg6, rg7, rg8, a_raise, k_raise, a_par3, k_par3, a_try, kt_ok, kt_exc, hdl, sEnd, dropN, inR, dRev, a_fz, k_fzL, k_fzF, k_fzT, a_fzS, k_fzS, a_parN, k_parN, allS, setNE, a_gTN, a_fzd, k_fzd, c, h1, h2]
theorem sum_lst (l : List Int) : dSum [.lst (l.map .int)] = some (.int l.sum) := by
  show (dLInts (.lst (l.map D.int))).map (fun ns => D.int ns.sum) = _
  have e : dLInts (.lst (l.map D.int)) = some l := dInts_map l
  rw [e]
  rfl
theorem ix_lst (l : List Int) (i : Nat) (h : i < l.length) : dIx [.lst (l.map .int), .int (i : Nat)] = some (.int (l.getD i 0)) := by
  show L2.atI (l.map D.int) ((i : Nat) : Int) = _
  rw [atI_nat, List.getElem?_map, List.getD_eq_getElem?_getD, List.getElem?_eq_getElem h]
  rfl
theorem sum_le {n : Nat} {P : Int} {f : Nat → Int} (h0 : 0 < P) (h : ∀ k < n, 0 ≤ f k ∧ f k ≤ P) (hn : n ≤ 127) : 0 ≤ ((List.range n).map f).sum ∧ ((List.range n).map f).sum ≤ 127 * P := by
  have key : ∀ m ≤ n, 0 ≤ ((List.range m).map f).sum ∧ ((List.range m).map f).sum ≤ m * P := by
    intro m
    induction m with
    | zero => intro _; simp
    | succ m ih =>
      intro hm
      obtain ⟨a1, a2⟩ := ih (by omega)
      obtain ⟨b1, b2⟩ := h m (by omega)
      rw [List.range_succ, List.map_append, List.sum_append, List.map_cons, List.map_nil, List.sum_cons, List.sum_nil]
      have e : ((m + 1 : Nat) : Int) * P = (m : Int) * P + P := by
        rw [Int.natCast_succ, Int.add_mul, Int.one_mul]
      rw [e]
      constructor <;> omega
  obtain ⟨a, b⟩ := key n (Nat.le_refl _)
  have c : (n : Int) * P ≤ 127 * P := Int.mul_le_mul_of_nonneg_right (by omega) (by omega)
  exact ⟨a, by omega⟩
theorem sum_mono {n : Nat} {f g : Nat → Int} (h : ∀ k < n, f k ≤ g k) : ((List.range n).map f).sum ≤ ((List.range n).map g).sum := by
  induction n with
  | zero => simp
  | succ n ih =>
    rw [List.range_succ, List.map_append, List.sum_append, List.map_append, List.sum_append]
    have a := ih fun k hk => h k (by omega)
    have b := h n (by omega)
    simp only [List.map_cons, List.map_nil, List.sum_cons, List.sum_nil]
    omega
theorem sum_nn {n : Nat} {f : Nat → Int} (h : ∀ k < n, 0 ≤ f k) : 0 ≤ ((List.range n).map f).sum := by
  induction n with
  | zero => simp
  | succ n ih =>
    rw [List.range_succ, List.map_append, List.sum_append]
    have a := ih fun k hk => h k (by omega)
    have b := h n (by omega)
    simp only [List.map_cons, List.map_nil, List.sum_cons, List.sum_nil]
    omega
def tri (a b c : Int) : Int := a * b * c
theorem tri_le {a b c P Q : Int} (ha : 0 ≤ a) (hb : 0 ≤ b) (hc : 0 ≤ c) (a1 : a ≤ P) (b1 : b ≤ Q) (c1 : c ≤ Q) : 0 ≤ tri a b c ∧ tri a b c ≤ P * Q * Q :=
  ⟨Int.mul_nonneg (Int.mul_nonneg ha hb) hc, Int.mul_le_mul (Int.mul_le_mul a1 b1 hb (by omega)) c1 hc (Int.mul_nonneg (by omega) (by omega))⟩
theorem tri_mono {a b c b' c' : Int} (ha : 0 ≤ a) (hb : 0 ≤ b) (hc : 0 ≤ c) (b1 : b ≤ b') (c1 : c ≤ c') : tri a b c ≤ tri a b' c' :=
  Int.mul_le_mul (Int.mul_le_mul (Int.le_refl _) b1 hb ha) c1 hc (Int.mul_nonneg ha (by omega))
theorem nabs_lt {x P : Int} {b : Nat} (h0 : 0 ≤ x) (h : x < P) (e : P = 2 ^ b) : x.natAbs < 2 ^ b := by
  have : ((2 ^ b : Nat) : Int) = P := by rw [e]; norm_cast
  omega
theorem mulT {i j P Q : Int} (a b : Nat) (i0 : 0 ≤ i) (i1 : i < P) (j0 : 0 ≤ j) (j1 : j < Q) (eP : P = 2 ^ a) (eQ : Q = 2 ^ b) (h0 : 0 < a) (h1 : 0 < b) (h : a + b ≤ 1000000) : dMulW [.int i, .int j] = some (.int (i * j)) :=
  mulW_of i j (nabs_lt i0 i1 eP) (nabs_lt j0 j1 eQ) h0 h1 h
def innL (b : Nat → Bool) : Nat → List Int
  | 0 => [1, 1]
  | k + 1 => innL b k ++ [(if b (k + 2) then 1 else 2) * ((List.range (k + 1)).map fun j => tri (cb k j) ((innL b k).getD (j + 1) 0) ((innL b k).getD (k - j) 0)).sum]
theorem inn_len (b : Nat → Bool) : ∀ k, (innL b k).length = k + 2
  | 0 => rfl
  | k + 1 => by simp [innL, inn_len b k]
def endL (I : List Int) : Nat → List Int
  | 0 => [1]
  | k + 1 => endL I k ++ [((List.range (k + 1)).map fun j => tri (cb k j) ((endL I k).getD j 0) (I.getD (k - j) 0)).sum]
theorem end_len (I : List Int) : ∀ k, (endL I k).length = k + 1
  | 0 => rfl
  | k + 1 => by simp [endL, end_len I k]
theorem getD_app {l m : List Int} {i : Nat} (h : i < l.length) : (l ++ m).getD i 0 = l.getD i 0 := by
  simp [List.getD_eq_getElem?_getD, List.getElem?_append_left h]
theorem getD_app2 {l m : List Int} {i : Nat} (h : l.length ≤ i) : (l ++ m).getD i 0 = m.getD (i - l.length) 0 := by
  simp [List.getD_eq_getElem?_getD, List.getElem?_append_right h]
theorem inn_pre (b : Nat → Bool) {k m i : Nat} (h : i < k + 2) (hm : k ≤ m) : (innL b m).getD i 0 = (innL b k).getD i 0 := by
  induction m with
  | zero => obtain rfl : k = 0 := by omega
            rfl
  | succ m ih =>
    by_cases c : k = m + 1
    · rw [c]
    · have := ih (by omega)
      rw [← this]
      have hl : i < (innL b m).length := by rw [inn_len]; omega
      exact getD_app hl
theorem end_pre (I : List Int) {k m i : Nat} (h : i < k + 1) (hm : k ≤ m) : (endL I m).getD i 0 = (endL I k).getD i 0 := by
  induction m with
  | zero => obtain rfl : k = 0 := by omega
            rfl
  | succ m ih =>
    by_cases c : k = m + 1
    · rw [c]
    · have := ih (by omega)
      rw [← this]
      have hl : i < (endL I m).length := by rw [end_len]; omega
      exact getD_app hl
theorem inn_mono {b b' : Nat → Bool} (h : ∀ m, b m = true → b' m = true) : ∀ k i, 0 ≤ (innL b' k).getD i 0 ∧ (innL b' k).getD i 0 ≤ (innL b k).getD i 0
  | 0, i => by
    have e : innL b' 0 = innL b 0 := rfl
    rw [e]
    refine ⟨?_, Int.le_refl _⟩
    match i with
    | 0 => exact (by decide : (0 : Int) ≤ 1)
    | 1 => exact (by decide : (0 : Int) ≤ 1)
    | i + 2 => simp [innL]
  | k + 1, i => by
    have ih := inn_mono h k
    by_cases c : i < k + 2
    · rw [inn_pre b' (k := k) c (by omega), inn_pre b (k := k) c (by omega)]
      exact ih i
    · have s0 := sum_nn (n := k + 1) (f := fun j => tri (cb k j) ((innL b' k).getD (j + 1) 0) ((innL b' k).getD (k - j) 0)) fun j hj => Int.mul_nonneg (Int.mul_nonneg (cb_pos (by omega)) (ih _).1) (ih _).1
      have s1 := sum_mono (n := k + 1) (f := fun j => tri (cb k j) ((innL b' k).getD (j + 1) 0) ((innL b' k).getD (k - j) 0)) (g := fun j => tri (cb k j) ((innL b k).getD (j + 1) 0) ((innL b k).getD (k - j) 0)) fun j hj =>
        tri_mono (cb_pos (by omega)) (ih _).1 (ih _).1 (ih _).2 (ih _).2
      unfold innL
      rw [getD_app2 (by rw [inn_len]; omega), getD_app2 (by rw [inn_len]; omega), inn_len, inn_len]
      generalize ((List.range (k + 1)).map fun j => tri (cb k j) ((innL b' k).getD (j + 1) 0) ((innL b' k).getD (k - j) 0)).sum = S at *
      generalize ((List.range (k + 1)).map fun j => tri (cb k j) ((innL b k).getD (j + 1) 0) ((innL b k).getD (k - j) 0)).sum = T at *
      match hi : i - (k + 2) with
      | 0 =>
        simp only [List.getD_cons_zero]
        have hb := h (k + 2)
        cases c1 : b (k + 2) <;> cases c2 : b' (k + 2) <;> simp_all <;> omega
      | q + 1 => simp
theorem end_mono {I J : List Int} (h : ∀ i, 0 ≤ J.getD i 0 ∧ J.getD i 0 ≤ I.getD i 0) : ∀ k i, 0 ≤ (endL J k).getD i 0 ∧ (endL J k).getD i 0 ≤ (endL I k).getD i 0
  | 0, i => by
    have e : endL J 0 = endL I 0 := rfl
    rw [e]
    refine ⟨?_, Int.le_refl _⟩
    match i with
    | 0 => exact (by decide : (0 : Int) ≤ 1)
    | i + 1 => simp [endL]
  | k + 1, i => by
    have ih := end_mono h k
    by_cases c : i < k + 1
    · rw [end_pre J (k := k) c (by omega), end_pre I (k := k) c (by omega)]
      exact ih i
    · have s0 := sum_nn (n := k + 1) (f := fun j => tri (cb k j) ((endL J k).getD j 0) (J.getD (k - j) 0)) fun j hj => Int.mul_nonneg (Int.mul_nonneg (cb_pos (by omega)) (ih _).1) (h _).1
      have s1 := sum_mono (n := k + 1) (f := fun j => tri (cb k j) ((endL J k).getD j 0) (J.getD (k - j) 0)) (g := fun j => tri (cb k j) ((endL I k).getD j 0) (I.getD (k - j) 0)) fun j hj =>
        tri_mono (cb_pos (by omega)) (ih _).1 (h _).1 (ih _).2 (h _).2
      unfold endL
      rw [getD_app2 (by rw [end_len]; omega), getD_app2 (by rw [end_len]; omega), end_len, end_len]
      match hi : i - (k + 1) with
      | 0 =>
        simp only [List.getD_cons_zero]
        exact ⟨s0, s1⟩
      | q + 1 => simp
abbrev noB : Nat → Bool := fun _ => false
theorem inn_top : ((innL noB 59).all fun x => decide (x < 2 ^ 300)) = true := by decide +kernel
theorem end_top : ((endL (innL noB 59) 60).all fun x => decide (x < 2 ^ 300)) = true := by decide +kernel
end K54
namespace K54
open PySem TV
theorem inn_bd (b : Nat → Bool) {k i : Nat} (hk : k ≤ 59) : 0 ≤ (innL b k).getD i 0 ∧ (innL b k).getD i 0 < 2 ^ 300 := by
  have m := inn_mono (b := noB) (b' := b) (fun m h => by cases h) k i
  refine ⟨m.1, Int.lt_of_le_of_lt m.2 ?_⟩
  by_cases c : i < k + 2
  · rw [← inn_pre noB (k := k) (m := 59) c hk]
    have hl : i < (innL noB 59).length := by rw [inn_len]; omega
    rw [List.getD_eq_getElem?_getD, List.getElem?_eq_getElem hl]
    exact of_decide_eq_true (List.all_eq_true.mp inn_top _ (List.getElem_mem hl))
  · rw [List.getD_eq_getElem?_getD, List.getElem?_eq_none (by rw [inn_len]; omega)]
    decide +kernel
theorem mul2 (x : Int) (h0 : 0 ≤ x) (h : x < 2 ^ 800) : dMulW [.int 2, .int x] = some (.int (2 * x)) := mulT (P := 2 ^ 2) (Q := 2 ^ 800) 2 800 (by decide) (by decide) h0 h rfl rfl (by decide) (by decide) (by decide)
theorem tri_mul {a b c : Int} (a0 : 0 ≤ a) (a1 : a < 2 ^ 60) (b0 : 0 ≤ b) (b1 : b < 2 ^ 300) (c0 : 0 ≤ c) (c1 : c < 2 ^ 300) : dMulW [.int a, .int b] = some (.int (a * b)) ∧ dMulW [.int (a * b), .int c] = some (.int (tri a b c)) := by
  have e : a * b < 2 ^ 60 * 2 ^ 300 := Int.lt_of_le_of_lt (Int.mul_le_mul_of_nonneg_left (Int.le_of_lt b1) a0) (Int.mul_lt_mul_of_pos_right a1 (by decide +kernel))
  have e2 : (2 : Int) ^ 60 * 2 ^ 300 = 2 ^ 360 := by decide +kernel
  rw [e2] at e
  exact ⟨mulT (P := 2 ^ 60) (Q := 2 ^ 300) 60 300 a0 a1 b0 b1 rfl rfl (by decide) (by decide) (by decide), mulT (P := 2 ^ 360) (Q := 2 ^ 300) 360 300 (Int.mul_nonneg a0 b0) e c0 c1 rfl rfl (by decide) (by decide) (by decide)⟩
theorem cb_lt {n k : Nat} (hn : n ≤ 60) (hk : k ≤ n) : cb n k < 2 ^ 60 := cb_le n (List.mem_range.mpr (by omega)) k (List.mem_range.mpr (by omega))
theorem sum_bd {n : Nat} {f : Nat → Int} (h : ∀ k < n, 0 ≤ f k ∧ f k ≤ 2 ^ 60 * 2 ^ 300 * 2 ^ 300) (hn : n ≤ 127) : 0 ≤ ((List.range n).map f).sum ∧ ((List.range n).map f).sum < 2 ^ 800 := by
  obtain ⟨a, b⟩ := sum_le (P := 2 ^ 60 * 2 ^ 300 * 2 ^ 300) (by decide +kernel) h hn
  have e : 127 * (2 ^ 60 * 2 ^ 300 * 2 ^ 300 : Int) < 2 ^ 800 := by decide +kernel
  exact ⟨a, Int.lt_of_le_of_lt b e⟩
theorem sl01_l (ds : List D) (i : Nat) : dSl01 [.lst ds, .int (i : Nat)] = some (.lst (ds.take i)) := by
  have e2 : HT.sIx ds.length ds.length (some (i : Int)) = min i ds.length := by rw [HT.sIx_nat]
  have e1 : HT.sIx ds.length 0 none = 0 := rfl
  simp only [dSl01, dCut, cutD, e1, e2, List.drop_zero, Nat.sub_zero]
  refine congrArg (fun l => some (D.lst l)) ?_
  rw [List.take_eq_take_iff]
  omega
theorem e_inner_counts (m : Nat) (r : Option (List Int)) (h1 : 1 ≤ m) (h2 : m ≤ 60) : F_inner_counts [some (.int (m : Nat)), some (rD r)] = .ok (.lst ((innL (fun n => letsB r n) (m - 1)).map .int), [some (.int (m : Nat)), some (rD r)]) := by
  let B : Nat → Bool := fun n => letsB r n
  have oR := rD_own r
  obtain ⟨ρ', e1, p3, p4, rfl⟩ := for_inv (tg := gN 3) (b := b_inner_counts_2) (I := fun k ρ => ∃ p3 p4 : Option D, ρ = [some (.int (m : Nat)), some (rD r), some (.lst ((innL B k).map .int)), p3, p4, none]) (dRng 1 (m - 1)) 0 [some (.int (m : Nat)), some (rD r), some (.lst ((innL B 0).map .int)), none, none, none] (fun k d ρ hd hI => by
    obtain ⟨p3, p4, rfl⟩ := hI
    obtain ⟨hk, rfl⟩ := dRng_get hd
    rw [Nat.zero_add]
    have ek : 1 + k = k + 1 := by omega
    rw [ek]
    have ln := inn_len B k
    have bd : ∀ i, 0 ≤ (innL B k).getD i 0 ∧ (innL B k).getD i 0 < 2 ^ 300 := fun i => inn_bd B (by omega)
    have lets := e_lets r ((k + 2 : Nat) : Int)
    generalize hF : innL B k = F at ln bd ⊢
    let g : Nat → Int := fun j => tri (cb k j) (F.getD (j + 1) 0) (F.getD (k - j) 0)
    have lc := lc_map (vs := [5]) (i := 5) (t := mYes) (u := u_inner_counts_1) (f := fun j : Nat => D.int (1 + j)) (g := fun j : Nat => D.int (g j)) (b := fun _ => true) (ρ := [some (.int (m : Nat)), some (rD r), some (.lst (F.map .int)), some (.int ((k + 1 : Nat) : Int)), p4, none]) (List.range (k + 1)) [] (fun j hj => by
      have hj := List.mem_range.mp hj
      refine ⟨by simp [b_ok, b_stuck, b_exc, a_def, f_ok, f_exc, k_rt, k_nx, a_do, a_set, a_set2, a_drop, a_ret, a_unp, a_seq, k_seq, k_seqr, k_seqb, k_seqc, a_op, k_op, a_c, a_var, a_b, k_b, a_then, k_and1, k_and0, k_or1, k_or0, k_andV1, k_andV0, k_orV1, k_orV0, k_if1, k_if0, k_ifS1, k_ifS0, k_ifT1, k_ifT0, k_notV, k_not, a_yes, a_no, a_next, a_never, a_par, k_par, a_for, k_for, a_i1, k_i1, a_io, k_io, a_call, k_call, a_callP, k_callP, a_chain, k_chain, a_mut, k_mut, a_sto, k_sto, a_lc, k_lc, a_new, a_gN, a_gT, d_lt, d_le, d_gt, d_ge, d_intB, ev, rds, chk, pAny, pTup, pInt, takeA, wbE, permL, padE, outE, gNs, own_int, own_bl, own_str, own_non, own_tup, own_ins, own_frl, own_lst, own_dic, dTup, dLst, dAdd, dSub, dMulS, dDiv, dMod, dNeg, dInt, dAbs, dIsN, dNotN, D.isNon, dLen, dItems, dIx, dTru, D.tru, D.seq, fSetL, fAppend, sizeLine_eq, rg1, rg2, rg3, rg4, rg5, rg6, rg7, rg8, a_raise, k_raise, a_par3, k_par3, a_try, kt_ok, kt_exc, hdl, sEnd, dropN, inR, dRev, a_fz, k_fzL, k_fzF, k_fzT, a_fzS, k_fzS, a_parN, k_parN, allS, setNE, a_gTN, a_fzd, k_fzd], fun _ => ⟨?_, rfl⟩, by simp [wipeE]⟩
      have w := e_waysN k j (by omega) (by omega)
      have x1 := ix_lst F (j + 1) (by omega)
      have x2 := ix_lst F (k - j) (by omega)
      obtain ⟨m1, m2⟩ := tri_mul (cb_pos (n := k) (k := j) (by omega)) (cb_lt (n := k) (k := j) (by omega) (by omega)) (bd (j + 1)).1 (bd (j + 1)).2 (bd (k - j)).1 (bd (k - j)).2
      have s1 : dSub [.int ((k + 1 : Nat) : Int), .int 1] = some (.int ((k : Nat) : Int)) := congrArg (fun z : Int => some (D.int z)) (by omega)
      have s2 : dSub [.int ((j + 1 : Nat) : Int), .int 1] = some (.int ((j : Nat) : Int)) := congrArg (fun z : Int => some (D.int z)) (by omega)
      have s3 : dSub [.int ((k + 1 : Nat) : Int), .int ((j + 1 : Nat) : Int)] = some (.int ((k - j : Nat) : Int)) := congrArg (fun z : Int => some (D.int z)) (by omega)
      have ej : (1 : Int) + (j : Nat) = ((j + 1 : Nat) : Int) := by omega
      show u_inner_counts_1 [some (.int (m : Nat)), some (rD r), some (.lst (F.map .int)), some (.int ((k + 1 : Nat) : Int)), p4, some (D.int (1 + (j : Nat)))] = R.ok (D.int (tri (cb k j) (F.getD (j + 1) 0) (F.getD (k - j) 0)), [some (.int (m : Nat)), some (rD r), some (.lst (F.map .int)), some (.int ((k + 1 : Nat) : Int)), p4, some (D.int (1 + (j : Nat)))])
      rw [ej]
      generalize tri (cb k j) (F.getD (j + 1) 0) (F.getD (k - j) 0) = T at *
      generalize cb k j * F.getD (j + 1) 0 = T1 at *
      generalize F.getD (j + 1) 0 = T2 at *
      generalize F.getD (k - j) 0 = T3 at *
      generalize cb k j = T4 at *
      generalize ((k - j : Nat) : Int) = N1 at *
      generalize ((j + 1 : Nat) : Int) = N2 at *
      generalize ((k + 1 : Nat) : Int) = N3 at *
      generalize ((j : Nat) : Int) = N4 at *
      generalize ((k : Nat) : Int) = N5 at *
      generalize ((m : Nat) : Int) = N6 at *
      generalize F.map D.int = FL at *
      clear lets bd
      unfold u_inner_counts_1
      have all := And.intro w <| And.intro x1 <| And.intro x2 <| And.intro m1 <| And.intro m2 <| And.intro s1 <| And.intro s2 s3
      clear w x1 x2 m1 m2 s1 s2 s3
      revert all
      refine gen1 F_ways ?_; intro f1
      refine gen1 dMulW ?_; intro d1
      refine gen1 dSub ?_; intro d2
      refine gen1 dIx ?_; intro d3
      rintro ⟨w, x1, x2, m1, m2, s1, s2, s3⟩
      simp [b_ok, b_stuck, b_exc, a_def, f_ok, f_exc, k_rt, k_nx, a_do, a_set, a_set2, a_drop, a_ret, a_unp, a_seq, k_seq, k_seqr, k_seqb, k_seqc, a_op, k_op, a_c, a_var, a_b, k_b, a_then, k_and1, k_and0, k_or1, k_or0, k_andV1, k_andV0, k_orV1, k_orV0, k_if1, k_if0, k_ifS1, k_ifS0, k_ifT1, k_ifT0, k_notV, k_not, a_yes, a_no, a_next, a_never, a_par, k_par, a_for, k_for, a_i1, k_i1, a_io, k_io, a_call, k_call, a_callP, k_callP, a_chain, k_chain, a_mut, k_mut, a_sto, k_sto, a_lc, k_lc, a_new, a_gN, a_gT, d_lt, d_le, d_gt, d_ge, d_intB, ev, rds, chk, pAny, pTup, pInt, takeA, wbE, permL, padE, outE, gNs, own_int, own_bl, own_str, own_non, own_tup, own_ins, own_frl, own_lst, own_dic, dTup, dLst, dAdd, dSub, dMulS, dDiv, dMod, dNeg, dInt, dAbs, dIsN, dNotN, D.isNon, dLen, dItems, dIx, dTru, D.tru, D.seq, fSetL, fAppend, sizeLine_eq, rg1, rg2, rg3, rg4, rg5, rg6, rg7, rg8, a_raise, k_raise, a_par3, k_par3, a_try, kt_ok, kt_exc, hdl, sEnd, dropN, inR, dRev, a_fz, k_fzL, k_fzF, k_fzT, a_fzS, k_fzS, a_parN, k_parN, allS, setNE, a_gTN, a_fzd, k_fzd, w, x1, x2, m1, m2, s1, s2, s3]) (by rw [sizeLine_eq]; simp; omega)
    rw [List.filter_eq_self.mpr (fun _ _ => rfl), List.nil_append] at lc
    have eR : (List.range (k + 1)).map (fun j : Nat => D.int (1 + j)) = dRng 1 (k + 1) := rfl
    have eS : (List.range (k + 1)).map (fun j : Nat => D.int (g j)) = ((List.range (k + 1)).map g).map .int := by rw [List.map_map]; rfl
    rw [eR, eS] at lc
    have sm := sum_lst ((List.range (k + 1)).map g)
    have sb := sum_bd (n := k + 1) (f := g) (fun j hj => tri_le (cb_pos (by omega)) (bd _).1 (bd _).1 (Int.le_of_lt (cb_lt (by omega) (by omega))) (Int.le_of_lt (bd _).2) (Int.le_of_lt (bd _).2)) (by omega)
    have m2 := mul2 _ sb.1 sb.2
    have ap : ∀ x, fAppend (F.map .int) [.int x] = some ((F ++ [x]).map .int, .non) := fun x => app_int F x (by omega)
    have A1 : dAdd [.int ((k + 1 : Nat) : Int), .int 1] = some (.int ((k + 2 : Nat) : Int)) := congrArg (fun z : Int => some (D.int z)) (by omega)
    have er : dR2 [.int 1, .int ((k + 2 : Nat) : Int)] = some (dRng 1 (k + 1)) := by
      have := range_2 1 (k + 2) (by omega) (by omega)
      exact this
    have eN : innL B (k + 1) = F ++ [(if B (k + 2) then 1 else 2) * ((List.range (k + 1)).map g).sum] := by
      subst hF
      rfl
    have hB : B (k + 2) = letsB r ((k + 2 : Nat) : Int) := rfl
    rw [hB] at eN
    refine ⟨_, _, rfl, ?_, some (.int ((k + 1 : Nat) : Int)), some (.int ((List.range (k + 1)).map g).sum), rfl⟩
    show b_inner_counts_2 [some (.int (m : Nat)), some (rD r), some (.lst (F.map .int)), some (.int ((k + 1 : Nat) : Int)), p4, none] = R.ok (Out.nx, [some (.int (m : Nat)), some (rD r), some (.lst ((innL B (k + 1)).map .int)), some (.int ((k + 1 : Nat) : Int)), some (.int ((List.range (k + 1)).map g).sum), none])
    rw [eN]
    have ap1 := ap ((List.range (k + 1)).map g).sum
    have ap2 := ap (2 * ((List.range (k + 1)).map g).sum)
    clear eR eS eN ap sb hB bd ln
    generalize hS : ((List.range (k + 1)).map g).sum = S at *
    generalize hL : ((List.range (k + 1)).map g).map D.int = GL at *
    clear hS hL
    cases hl : letsB r ((k + 2 : Nat) : Int)
    · rw [hl] at lets
      simp only [Bool.false_eq_true, if_false]
      generalize (F ++ [2 * S]).map D.int = M2 at *
      generalize (F ++ [S]).map D.int = M1 at *
      generalize dRng 1 (k + 1) = RG at *
      generalize F.map D.int = FL at *
      generalize 2 * S = S2 at *
      generalize ((k + 2 : Nat) : Int) = N2 at *
      generalize ((k + 1 : Nat) : Int) = N1 at *
      generalize ((m : Nat) : Int) = N0 at *
      generalize rD r = RR at *
      clear hl
      unfold b_inner_counts_2
      have all := And.intro lc <| And.intro sm <| And.intro m2 <| And.intro ap1 <| And.intro ap2 <| And.intro A1 <| And.intro er lets
      clear lc sm m2 ap1 ap2 A1 er lets
      revert all
      refine gen1 u_inner_counts_1 ?_; intro q1
      refine gen1 F_lets ?_; intro f1
      refine gen1 dMulW ?_; intro d1
      refine gen1 dAdd ?_; intro d2
      refine gen1 dR2 ?_; intro d3
      refine gen1 dSum ?_; intro d4
      refine gen1 fAppend ?_; intro d5
      rintro ⟨lc, sm, m2, ap1, ap2, A1, er, lets⟩
      simp [b_ok, b_stuck, b_exc, a_def, f_ok, f_exc, k_rt, k_nx, a_do, a_set, a_set2, a_drop, a_ret, a_unp, a_seq, k_seq, k_seqr, k_seqb, k_seqc, a_op, k_op, a_c, a_var, a_b, k_b, a_then, k_and1, k_and0, k_or1, k_or0, k_andV1, k_andV0, k_orV1, k_orV0, k_if1, k_if0, k_ifS1, k_ifS0, k_ifT1, k_ifT0, k_notV, k_not, a_yes, a_no, a_next, a_never, a_par, k_par, a_for, k_for, a_i1, k_i1, a_io, k_io, a_call, k_call, a_callP, k_callP, a_chain, k_chain, a_mut, k_mut, a_sto, k_sto, a_lc, k_lc, a_new, a_gN, a_gT, d_lt, d_le, d_gt, d_ge, d_intB, ev, rds, chk, pAny, pTup, pInt, takeA, wbE, permL, padE, outE, gNs, own_int, own_bl, own_str, own_non, own_tup, own_ins, own_frl, own_lst, own_dic, dTup, dLst, dAdd, dSub, dMulS, dDiv, dMod, dNeg, dInt, dAbs, dIsN, dNotN, D.isNon, dLen, dItems, dIx, dTru, D.tru, D.seq, fSetL, fAppend, sizeLine_eq, rg1, rg2, rg3, rg4, rg5, rg6, rg7, rg8, a_raise, k_raise, a_par3, k_par3, a_try, kt_ok, kt_exc, hdl, sEnd, dropN, inR, dRev, a_fz, k_fzL, k_fzF, k_fzT, a_fzS, k_fzS, a_parN, k_parN, allS, setNE, a_gTN, a_fzd, k_fzd, wipeE, lc, sm, m2, ap1, ap2, A1, er, lets, oR, -fAppend]
    · rw [hl] at lets
      simp only [if_true, Int.one_mul]
      generalize (F ++ [2 * S]).map D.int = M2 at *
      generalize (F ++ [S]).map D.int = M1 at *
      generalize dRng 1 (k + 1) = RG at *
      generalize F.map D.int = FL at *
      generalize 2 * S = S2 at *
      generalize ((k + 2 : Nat) : Int) = N2 at *
      generalize ((k + 1 : Nat) : Int) = N1 at *
      generalize ((m : Nat) : Int) = N0 at *
      generalize rD r = RR at *
      clear hl
      unfold b_inner_counts_2
      have all := And.intro lc <| And.intro sm <| And.intro m2 <| And.intro ap1 <| And.intro ap2 <| And.intro A1 <| And.intro er lets
      clear lc sm m2 ap1 ap2 A1 er lets
      revert all
      refine gen1 u_inner_counts_1 ?_; intro q1
      refine gen1 F_lets ?_; intro f1
      refine gen1 dMulW ?_; intro d1
      refine gen1 dAdd ?_; intro d2
      refine gen1 dR2 ?_; intro d3
      refine gen1 dSum ?_; intro d4
      refine gen1 fAppend ?_; intro d5
      rintro ⟨lc, sm, m2, ap1, ap2, A1, er, lets⟩
      simp [b_ok, b_stuck, b_exc, a_def, f_ok, f_exc, k_rt, k_nx, a_do, a_set, a_set2, a_drop, a_ret, a_unp, a_seq, k_seq, k_seqr, k_seqb, k_seqc, a_op, k_op, a_c, a_var, a_b, k_b, a_then, k_and1, k_and0, k_or1, k_or0, k_andV1, k_andV0, k_orV1, k_orV0, k_if1, k_if0, k_ifS1, k_ifS0, k_ifT1, k_ifT0, k_notV, k_not, a_yes, a_no, a_next, a_never, a_par, k_par, a_for, k_for, a_i1, k_i1, a_io, k_io, a_call, k_call, a_callP, k_callP, a_chain, k_chain, a_mut, k_mut, a_sto, k_sto, a_lc, k_lc, a_new, a_gN, a_gT, d_lt, d_le, d_gt, d_ge, d_intB, ev, rds, chk, pAny, pTup, pInt, takeA, wbE, permL, padE, outE, gNs, own_int, own_bl, own_str, own_non, own_tup, own_ins, own_frl, own_lst, own_dic, dTup, dLst, dAdd, dSub, dMulS, dDiv, dMod, dNeg, dInt, dAbs, dIsN, dNotN, D.isNon, dLen, dItems, dIx, dTru, D.tru, D.seq, fSetL, fAppend, sizeLine_eq, rg1, rg2, rg3, rg4, rg5, rg6, rg7, rg8, a_raise, k_raise, a_par3, k_par3, a_try, kt_ok, kt_exc, hdl, sEnd, dropN, inR, dRev, a_fz, k_fzL, k_fzF, k_fzT, a_fzS, k_fzS, a_parN, k_parN, allS, setNE, a_gTN, a_fzd, k_fzd, wipeE, lc, sm, m2, ap1, ap2, A1, er, lets, oR, -fAppend]) ⟨none, none, rfl⟩
  have lr : (dRng 1 (m - 1)).length = m - 1 := by simp [dRng]
  rw [lr, Nat.zero_add] at e1
  have ln := inn_len B (m - 1)
  have g1 : dLst [.int 1, .int 1] = some (.lst [.int 1, .int 1]) := by simp [dLst, sizeLine_eq, own_int]
  have er : dR2 [.int 1, .int (m : Nat)] = some (dRng 1 (m - 1)) := range_2 1 m (by omega) (by omega)
  have A1 : dAdd [.int (m : Nat), .int 1] = some (.int ((m + 1 : Nat) : Int)) := congrArg (fun z : Int => some (D.int z)) (by omega)
  have sl : dSl01 [.lst ((innL B (m - 1)).map .int), .int ((m + 1 : Nat) : Int)] = some (.lst ((innL B (m - 1)).map .int)) := by
    have := sl01_l ((innL B (m - 1)).map D.int) (m + 1)
    rw [this, List.take_of_length_le (by rw [List.length_map, ln]; omega)]
  replace e1 : forL (gN 3) b_inner_counts_2 (dRng 1 (m - 1)) [some (.int (m : Nat)), some (rD r), some (.lst [.int 1, .int 1]), none, none, none] = .ok (.nx, [some (.int (m : Nat)), some (rD r), some (.lst ((innL B (m - 1)).map .int)), p3, p4, none]) := e1
  show F_inner_counts [some (.int (m : Nat)), some (rD r)] = .ok (.lst ((innL B (m - 1)).map .int), [some (.int (m : Nat)), some (rD r)])
  clear ln lr
  unfold F_inner_counts m_inner_counts
  generalize (innL B (m - 1)).map D.int = L1 at *
  generalize dRng 1 (m - 1) = RG at *
  generalize ((m + 1 : Nat) : Int) = N1 at *
  generalize ((m : Nat) : Int) = N0 at *
  generalize rD r = RR at *
  have all := And.intro e1 <| And.intro g1 <| And.intro er <| And.intro A1 sl
  clear e1 g1 er A1 sl
  revert all
  refine gen1 b_inner_counts_2 ?_; intro q1
  refine gen1 dLst ?_; intro d1
  refine gen1 dR2 ?_; intro d2
  refine gen1 dAdd ?_; intro d3
  refine gen1 dSl01 ?_; intro d4
  rintro ⟨e1, g1, er, A1, sl⟩
  simp [b_ok, b_stuck, b_exc, a_def, f_ok, f_exc, k_rt, k_nx, a_do, a_set, a_set2, a_drop, a_ret, a_unp, a_seq, k_seq, k_seqr, k_seqb, k_seqc, a_op, k_op, a_c, a_var, a_b, k_b, a_then, k_and1, k_and0, k_or1, k_or0, k_andV1, k_andV0, k_orV1, k_orV0, k_if1, k_if0, k_ifS1, k_ifS0, k_ifT1, k_ifT0, k_notV, k_not, a_yes, a_no, a_next, a_never, a_par, k_par, a_for, k_for, a_i1, k_i1, a_io, k_io, a_call, k_call, a_callP, k_callP, a_chain, k_chain, a_mut, k_mut, a_sto, k_sto, a_lc, k_lc, a_new, a_gN, a_gT, d_lt, d_le, d_gt, d_ge, d_intB, ev, rds, chk, pAny, pTup, pInt, takeA, wbE, permL, padE, outE, gNs, own_int, own_bl, own_str, own_non, own_tup, own_ins, own_frl, own_lst, own_dic, dTup, dLst, dAdd, dSub, dMulS, dDiv, dMod, dNeg, dInt, dAbs, dIsN, dNotN, D.isNon, dLen, dItems, dIx, dTru, D.tru, D.seq, fSetL, fAppend, sizeLine_eq, rg1, rg2, rg3, rg4, rg5, rg6, rg7, rg8, a_raise, k_raise, a_par3, k_par3, a_try, kt_ok, kt_exc, hdl, sEnd, dropN, inR, dRev, a_fz, k_fzL, k_fzF, k_fzT, a_fzS, k_fzS, a_parN, k_parN, allS, setNE, a_gTN, a_fzd, k_fzd, ↓e1, g1, er, A1, sl, oR, -dLst]
end K54
namespace K54
open PySem TV
theorem end_bd {I : List Int} (hI : ∃ b k, I = innL b k ∧ k ≤ 59) {k i : Nat} (hk : k ≤ 60) : 0 ≤ (endL I k).getD i 0 ∧ (endL I k).getD i 0 < 2 ^ 300 := by
  obtain ⟨b, q, rfl, hq⟩ := hI
  have mI : ∀ i, 0 ≤ (innL b q).getD i 0 ∧ (innL b q).getD i 0 ≤ (innL noB 59).getD i 0 := fun i => by
    have m := inn_mono (b := noB) (b' := b) (fun m h => by cases h) q i
    refine ⟨m.1, ?_⟩
    by_cases c : i < q + 2
    · rw [inn_pre noB (k := q) (m := 59) c hq]
      exact m.2
    · have z := (inn_mono (b := noB) (b' := noB) (fun m h => h) 59 i).1
      rw [List.getD_eq_getElem?_getD, List.getElem?_eq_none (by rw [inn_len]; omega)]
      exact z
  have m := end_mono mI k i
  refine ⟨m.1, Int.lt_of_le_of_lt m.2 ?_⟩
  by_cases c : i < k + 1
  · rw [← end_pre (innL noB 59) (k := k) (m := 60) c hk]
    have hl : i < (endL (innL noB 59) 60).length := by rw [end_len]; omega
    rw [List.getD_eq_getElem?_getD, List.getElem?_eq_getElem hl]
    exact of_decide_eq_true (List.all_eq_true.mp end_top _ (List.getElem_mem hl))
  · rw [List.getD_eq_getElem?_getD, List.getElem?_eq_none (by rw [end_len]; omega)]
    decide +kernel
theorem e_end_counts (b : Nat → Bool) (q : Nat) (hq : q ≤ 59) : F_end_counts [some (.lst ((innL b q).map .int))] = .ok (.lst ((endL (innL b q) (q + 1)).map .int), [some (.lst ((innL b q).map .int))]) := by
  have hI : ∃ b k, innL b q = innL b k ∧ k ≤ 59 := ⟨b, q, rfl, hq⟩
  have lI := inn_len b q
  have bI : ∀ i, 0 ≤ (innL b q).getD i 0 ∧ (innL b q).getD i 0 < 2 ^ 300 := fun i => inn_bd b hq
  have eB : ∀ {k i : Nat}, k ≤ 60 → 0 ≤ (endL (innL b q) k).getD i 0 ∧ (endL (innL b q) k).getD i 0 < 2 ^ 300 := fun {k i} hk => end_bd ⟨b, q, rfl, hq⟩ hk
  generalize innL b q = I at *
  obtain ⟨ρ', e1, p2, rfl⟩ := for_inv (tg := gN 2) (b := b_end_counts_2) (I := fun k ρ => ∃ p2 : Option D, ρ = [some (.lst (I.map .int)), some (.lst ((endL I k).map .int)), p2, none]) (dRng 0 (q + 1)) 0 [some (.lst (I.map .int)), some (.lst ((endL I 0).map .int)), none, none] (fun k d ρ hd hI => by
    obtain ⟨p2, rfl⟩ := hI
    obtain ⟨hk, rfl⟩ := dRng_get hd
    rw [Nat.zero_add]
    have ln := end_len I k
    have bd : ∀ i, 0 ≤ (endL I k).getD i 0 ∧ (endL I k).getD i 0 < 2 ^ 300 := fun i => eB (by omega)
    have eN : endL I (k + 1) = endL I k ++ [((List.range (k + 1)).map fun j => tri (cb k j) ((endL I k).getD j 0) (I.getD (k - j) 0)).sum] := rfl
    rw [eN]
    generalize endL I k = F at ln bd ⊢
    clear eN
    let g : Nat → Int := fun j => tri (cb k j) (F.getD j 0) (I.getD (k - j) 0)
    have lc := lc_map (vs := [3]) (i := 3) (t := mYes) (u := u_end_counts_1) (f := fun j : Nat => D.int (0 + j)) (g := fun j : Nat => D.int (g j)) (b := fun _ => true) (ρ := [some (.lst (I.map .int)), some (.lst (F.map .int)), some (.int ((k : Nat) : Int)), none]) (List.range (k + 1)) [] (fun j hj => by
      have hj := List.mem_range.mp hj
      refine ⟨by simp [b_ok, b_stuck, b_exc, a_def, f_ok, f_exc, k_rt, k_nx, a_do, a_set, a_set2, a_drop, a_ret, a_unp, a_seq, k_seq, k_seqr, k_seqb, k_seqc, a_op, k_op, a_c, a_var, a_b, k_b, a_then, k_and1, k_and0, k_or1, k_or0, k_andV1, k_andV0, k_orV1, k_orV0, k_if1, k_if0, k_ifS1, k_ifS0, k_ifT1, k_ifT0, k_notV, k_not, a_yes, a_no, a_next, a_never, a_par, k_par, a_for, k_for, a_i1, k_i1, a_io, k_io, a_call, k_call, a_callP, k_callP, a_chain, k_chain, a_mut, k_mut, a_sto, k_sto, a_lc, k_lc, a_new, a_gN, a_gT, d_lt, d_le, d_gt, d_ge, d_intB, ev, rds, chk, pAny, pTup, pInt, takeA, wbE, permL, padE, outE, gNs, own_int, own_bl, own_str, own_non, own_tup, own_ins, own_frl, own_lst, own_dic, dTup, dLst, dAdd, dSub, dMulS, dDiv, dMod, dNeg, dInt, dAbs, dIsN, dNotN, D.isNon, dLen, dItems, dIx, dTru, D.tru, D.seq, fSetL, fAppend, sizeLine_eq, rg1, rg2, rg3, rg4, rg5, rg6, rg7, rg8, a_raise, k_raise, a_par3, k_par3, a_try, kt_ok, kt_exc, hdl, sEnd, dropN, inR, dRev, a_fz, k_fzL, k_fzF, k_fzT, a_fzS, k_fzS, a_parN, k_parN, allS, setNE, a_gTN, a_fzd, k_fzd], fun _ => ⟨?_, rfl⟩, by simp [wipeE]⟩
      have w := e_waysN k j (by omega) (by omega)
      have x1 := ix_lst F j (by omega)
      have x2 := ix_lst I (k - j) (by omega)
      obtain ⟨m1, m2⟩ := tri_mul (cb_pos (n := k) (k := j) (by omega)) (cb_lt (n := k) (k := j) (by omega) (by omega)) (bd j).1 (bd j).2 (bI (k - j)).1 (bI (k - j)).2
      have s3 : dSub [.int ((k : Nat) : Int), .int ((j : Nat) : Int)] = some (.int ((k - j : Nat) : Int)) := congrArg (fun z : Int => some (D.int z)) (by omega)
      have ej : (0 : Int) + (j : Nat) = ((j : Nat) : Int) := by omega
      show u_end_counts_1 [some (.lst (I.map .int)), some (.lst (F.map .int)), some (.int ((k : Nat) : Int)), some (D.int (0 + (j : Nat)))] = R.ok (D.int (tri (cb k j) (F.getD j 0) (I.getD (k - j) 0)), [some (.lst (I.map .int)), some (.lst (F.map .int)), some (.int ((k : Nat) : Int)), some (D.int (0 + (j : Nat)))])
      rw [ej]
      clear bd bI eB lI ln
      generalize tri (cb k j) (F.getD j 0) (I.getD (k - j) 0) = T at *
      generalize cb k j * F.getD j 0 = T1 at *
      generalize F.getD j 0 = T2 at *
      generalize I.getD (k - j) 0 = T3 at *
      generalize cb k j = T4 at *
      generalize ((k - j : Nat) : Int) = N1 at *
      generalize ((j : Nat) : Int) = N4 at *
      generalize ((k : Nat) : Int) = N5 at *
      generalize F.map D.int = FL at *
      generalize I.map D.int = IL at *
      unfold u_end_counts_1
      have all := And.intro w <| And.intro x1 <| And.intro x2 <| And.intro m1 <| And.intro m2 s3
      clear w x1 x2 m1 m2 s3
      revert all
      refine gen1 F_ways ?_; intro f1
      refine gen1 dMulW ?_; intro d1
      refine gen1 dSub ?_; intro d2
      refine gen1 dIx ?_; intro d3
      rintro ⟨w, x1, x2, m1, m2, s3⟩
      simp [b_ok, b_stuck, b_exc, a_def, f_ok, f_exc, k_rt, k_nx, a_do, a_set, a_set2, a_drop, a_ret, a_unp, a_seq, k_seq, k_seqr, k_seqb, k_seqc, a_op, k_op, a_c, a_var, a_b, k_b, a_then, k_and1, k_and0, k_or1, k_or0, k_andV1, k_andV0, k_orV1, k_orV0, k_if1, k_if0, k_ifS1, k_ifS0, k_ifT1, k_ifT0, k_notV, k_not, a_yes, a_no, a_next, a_never, a_par, k_par, a_for, k_for, a_i1, k_i1, a_io, k_io, a_call, k_call, a_callP, k_callP, a_chain, k_chain, a_mut, k_mut, a_sto, k_sto, a_lc, k_lc, a_new, a_gN, a_gT, d_lt, d_le, d_gt, d_ge, d_intB, ev, rds, chk, pAny, pTup, pInt, takeA, wbE, permL, padE, outE, gNs, own_int, own_bl, own_str, own_non, own_tup, own_ins, own_frl, own_lst, own_dic, dTup, dLst, dAdd, dSub, dMulS, dDiv, dMod, dNeg, dInt, dAbs, dIsN, dNotN, D.isNon, dLen, dItems, dIx, dTru, D.tru, D.seq, fSetL, fAppend, sizeLine_eq, rg1, rg2, rg3, rg4, rg5, rg6, rg7, rg8, a_raise, k_raise, a_par3, k_par3, a_try, kt_ok, kt_exc, hdl, sEnd, dropN, inR, dRev, a_fz, k_fzL, k_fzF, k_fzT, a_fzS, k_fzS, a_parN, k_parN, allS, setNE, a_gTN, a_fzd, k_fzd, w, x1, x2, m1, m2, s3]) (by rw [sizeLine_eq]; simp; omega)
    rw [List.filter_eq_self.mpr (fun _ _ => rfl), List.nil_append] at lc
    have eR : (List.range (k + 1)).map (fun j : Nat => D.int (0 + j)) = dRng 0 (k + 1) := rfl
    have eS : (List.range (k + 1)).map (fun j : Nat => D.int (g j)) = ((List.range (k + 1)).map g).map .int := by rw [List.map_map]; rfl
    rw [eR, eS] at lc
    have sm := sum_lst ((List.range (k + 1)).map g)
    have ap := app_int F ((List.range (k + 1)).map g).sum (by omega)
    have A1 : dAdd [.int ((k : Nat) : Int), .int 1] = some (.int ((k + 1 : Nat) : Int)) := congrArg (fun z : Int => some (D.int z)) (by omega)
    have er := range_1 (k + 1) (by omega)
    refine ⟨_, _, rfl, ?_, some (.int ((k : Nat) : Int)), rfl⟩
    show b_end_counts_2 [some (.lst (I.map .int)), some (.lst (F.map .int)), some (.int ((k : Nat) : Int)), none] = R.ok (Out.nx, [some (.lst (I.map .int)), some (.lst ((F ++ [((List.range (k + 1)).map g).sum]).map .int)), some (.int ((k : Nat) : Int)), none])
    clear eR eS bd bI eB lI ln
    generalize (F ++ [((List.range (k + 1)).map g).sum]).map D.int = M1 at *
    generalize ((List.range (k + 1)).map g).sum = S at *
    generalize ((List.range (k + 1)).map g).map D.int = GL at *
    generalize dRng 0 (k + 1) = RG at *
    generalize F.map D.int = FL at *
    generalize I.map D.int = IL at *
    generalize ((k + 1 : Nat) : Int) = N1 at *
    generalize ((k : Nat) : Int) = N0 at *
    unfold b_end_counts_2
    have all := And.intro lc <| And.intro sm <| And.intro ap <| And.intro A1 er
    clear lc sm ap A1 er
    revert all
    refine gen1 u_end_counts_1 ?_; intro q1
    refine gen1 dAdd ?_; intro d2
    refine gen1 dR1 ?_; intro d3
    refine gen1 dSum ?_; intro d4
    refine gen1 fAppend ?_; intro d5
    rintro ⟨lc, sm, ap, A1, er⟩
    simp [b_ok, b_stuck, b_exc, a_def, f_ok, f_exc, k_rt, k_nx, a_do, a_set, a_set2, a_drop, a_ret, a_unp, a_seq, k_seq, k_seqr, k_seqb, k_seqc, a_op, k_op, a_c, a_var, a_b, k_b, a_then, k_and1, k_and0, k_or1, k_or0, k_andV1, k_andV0, k_orV1, k_orV0, k_if1, k_if0, k_ifS1, k_ifS0, k_ifT1, k_ifT0, k_notV, k_not, a_yes, a_no, a_next, a_never, a_par, k_par, a_for, k_for, a_i1, k_i1, a_io, k_io, a_call, k_call, a_callP, k_callP, a_chain, k_chain, a_mut, k_mut, a_sto, k_sto, a_lc, k_lc, a_new, a_gN, a_gT, d_lt, d_le, d_gt, d_ge, d_intB, ev, rds, chk, pAny, pTup, pInt, takeA, wbE, permL, padE, outE, gNs, own_int, own_bl, own_str, own_non, own_tup, own_ins, own_frl, own_lst, own_dic, dTup, dLst, dAdd, dSub, dMulS, dDiv, dMod, dNeg, dInt, dAbs, dIsN, dNotN, D.isNon, dLen, dItems, dIx, dTru, D.tru, D.seq, fSetL, fAppend, sizeLine_eq, rg1, rg2, rg3, rg4, rg5, rg6, rg7, rg8, a_raise, k_raise, a_par3, k_par3, a_try, kt_ok, kt_exc, hdl, sEnd, dropN, inR, dRev, a_fz, k_fzL, k_fzF, k_fzT, a_fzS, k_fzS, a_parN, k_parN, allS, setNE, a_gTN, a_fzd, k_fzd, wipeE, lc, sm, ap, A1, er, -fAppend]) ⟨none, rfl⟩
  have lr : (dRng 0 (q + 1)).length = q + 1 := by simp [dRng]
  rw [lr, Nat.zero_add] at e1
  have g1 : dLst [.int 1] = some (.lst [.int 1]) := by simp [dLst, sizeLine_eq, own_int]
  have g2 : dLen [.lst (I.map .int)] = some (.int ((q + 2 : Nat) : Int)) := by rw [len_lst, lI]
  have A1 : dSub [.int ((q + 2 : Nat) : Int), .int 1] = some (.int ((q + 1 : Nat) : Int)) := congrArg (fun z : Int => some (D.int z)) (by omega)
  have er := range_1 (q + 1) (by omega)
  replace e1 : forL (gN 2) b_end_counts_2 (dRng 0 (q + 1)) [some (.lst (I.map .int)), some (.lst [.int 1]), none, none] = .ok (.nx, [some (.lst (I.map .int)), some (.lst ((endL I (q + 1)).map .int)), p2, none]) := e1
  clear lr bI eB
  unfold F_end_counts m_end_counts
  generalize (endL I (q + 1)).map D.int = L1 at *
  generalize I.map D.int = IL at *
  generalize dRng 0 (q + 1) = RG at *
  generalize ((q + 2 : Nat) : Int) = N2 at *
  generalize ((q + 1 : Nat) : Int) = N1 at *
  have all := And.intro e1 <| And.intro g1 <| And.intro g2 <| And.intro A1 er
  clear e1 g1 g2 A1 er
  revert all
  refine gen1 b_end_counts_2 ?_; intro q1
  refine gen1 dLst ?_; intro d1
  refine gen1 dR1 ?_; intro d2
  refine gen1 dSub ?_; intro d3
  refine gen1 dLen ?_; intro d4
  rintro ⟨e1, g1, g2, A1, er⟩
  simp [b_ok, b_stuck, b_exc, a_def, f_ok, f_exc, k_rt, k_nx, a_do, a_set, a_set2, a_drop, a_ret, a_unp, a_seq, k_seq, k_seqr, k_seqb, k_seqc, a_op, k_op, a_c, a_var, a_b, k_b, a_then, k_and1, k_and0, k_or1, k_or0, k_andV1, k_andV0, k_orV1, k_orV0, k_if1, k_if0, k_ifS1, k_ifS0, k_ifT1, k_ifT0, k_notV, k_not, a_yes, a_no, a_next, a_never, a_par, k_par, a_for, k_for, a_i1, k_i1, a_io, k_io, a_call, k_call, a_callP, k_callP, a_chain, k_chain, a_mut, k_mut, a_sto, k_sto, a_lc, k_lc, a_new, a_gN, a_gT, d_lt, d_le, d_gt, d_ge, d_intB, ev, rds, chk, pAny, pTup, pInt, takeA, wbE, permL, padE, outE, gNs, own_int, own_bl, own_str, own_non, own_tup, own_ins, own_frl, own_lst, own_dic, dTup, dLst, dAdd, dSub, dMulS, dDiv, dMod, dNeg, dInt, dAbs, dIsN, dNotN, D.isNon, dLen, dItems, dIx, dTru, D.tru, D.seq, fSetL, fAppend, sizeLine_eq, rg1, rg2, rg3, rg4, rg5, rg6, rg7, rg8, a_raise, k_raise, a_par3, k_par3, a_try, kt_ok, kt_exc, hdl, sEnd, dropN, inR, dRev, a_fz, k_fzL, k_fzF, k_fzT, a_fzS, k_fzS, a_parN, k_parN, allS, setNE, a_gTN, a_fzd, k_fzd, ↓e1, g1, g2, A1, er, -dLst, -dLen]
def ccZ (b : Nat → Bool) (n : Nat) (e : Int) : Int :=
  if e = 3 then (innL b (n - 1)).getD n 0 else if e = 1 ∨ e = 2 then (endL (innL b (n - 1)) n).getD n 0
  else ((List.range n).map fun j => tri (cb (n - 1) j) ((endL (innL b (n - 1)) n).getD j 0) ((endL (innL b (n - 1)) n).getD (n - 1 - j) 0)).sum
theorem e_class_count (n : Nat) (e : Int) (r : Option (List Int)) (h1 : 1 ≤ n) (h2 : n ≤ 60) (he : 0 ≤ e ∧ e ≤ 3) (hr : okR r) : F_class_count [some (.int (n : Nat)), some (.int e), some (rD r)] = .ok (.int (ccZ (fun n => letsB r n) n e), [some (.int (n : Nat)), some (.int e), some (rD r)]) := by
  have w1 := e_want_ends e he.1 he.2
  have w2 := e_want_rule r hr
  have k1 := e_inner_counts n r h1 h2
  obtain ⟨q, rfl⟩ : ∃ q, n = q + 1 := ⟨n - 1, by omega⟩
  have k2 := e_end_counts (fun n => letsB r n) q (by omega)
  have c1 : decide ((1 : Int) ≤ ((q + 1 : Nat) : Int)) = true := decide_eq_true (by omega)
  have c2 : decide (((q + 1 : Nat) : Int) ≤ 60) = true := decide_eq_true (by omega)
  have eB : ∀ i : Nat, 0 ≤ (endL (innL (fun n => letsB r n) q) (q + 1)).getD i 0 ∧ (endL (innL (fun n => letsB r n) q) (q + 1)).getD i 0 < 2 ^ 300 := fun i => end_bd ⟨_, q, rfl, by omega⟩ (by omega)
  have oR := rD_own r
  have lI := inn_len (fun n => letsB r n) q
  have lE := end_len (innL (fun n => letsB r n) q) (q + 1)
  have i3 : dEq [.int e, .int 3] = some (.bl (decide (e = 3))) := d_eq
  have i12 : dInA false [.int e, .tup [.int 1, .int 2]] = some (.bl (decide (e = 1 ∨ e = 2))) := in_2 e 1 2
  unfold ccZ
  rw [Nat.add_sub_cancel] at k1 ⊢
  generalize innL (fun n => letsB r n) q = I at *
  generalize endL I (q + 1) = E at *
  have x1 := ix_lst I (q + 1) (by omega)
  have x2 := ix_lst E (q + 1) (by omega)
  let g : Nat → Int := fun j => tri (cb q j) (E.getD j 0) (E.getD (q - j) 0)
  have A0 : dSub [.int ((q + 1 : Nat) : Int), .int 1] = some (.int ((q : Nat) : Int)) := congrArg (fun z : Int => some (D.int z)) (by omega)
  have lc := lc_map (vs := [5]) (i := 5) (t := mYes) (u := u_class_count_1) (f := fun j : Nat => D.int (0 + j)) (g := fun j : Nat => D.int (g j)) (b := fun _ => true) (ρ := [some (.int ((q + 1 : Nat) : Int)), some (.int e), some (rD r), some (.lst (I.map .int)), some (.lst (E.map .int)), none]) (List.range (q + 1)) [] (fun j hj => by
    have hj := List.mem_range.mp hj
    refine ⟨by simp [b_ok, b_stuck, b_exc, a_def, f_ok, f_exc, k_rt, k_nx, a_do, a_set, a_set2, a_drop, a_ret, a_unp, a_seq, k_seq, k_seqr, k_seqb, k_seqc, a_op, k_op, a_c, a_var, a_b, k_b, a_then, k_and1, k_and0, k_or1, k_or0, k_andV1, k_andV0, k_orV1, k_orV0, k_if1, k_if0, k_ifS1, k_ifS0, k_ifT1, k_ifT0, k_notV, k_not, a_yes, a_no, a_next, a_never, a_par, k_par, a_for, k_for, a_i1, k_i1, a_io, k_io, a_call, k_call, a_callP, k_callP, a_chain, k_chain, a_mut, k_mut, a_sto, k_sto, a_lc, k_lc, a_new, a_gN, a_gT, d_lt, d_le, d_gt, d_ge, d_intB, ev, rds, chk, pAny, pTup, pInt, takeA, wbE, permL, padE, outE, gNs, own_int, own_bl, own_str, own_non, own_tup, own_ins, own_frl, own_lst, own_dic, dTup, dLst, dAdd, dSub, dMulS, dDiv, dMod, dNeg, dInt, dAbs, dIsN, dNotN, D.isNon, dLen, dItems, dIx, dTru, D.tru, D.seq, fSetL, fAppend, sizeLine_eq, rg1, rg2, rg3, rg4, rg5, rg6, rg7, rg8, a_raise, k_raise, a_par3, k_par3, a_try, kt_ok, kt_exc, hdl, sEnd, dropN, inR, dRev, a_fz, k_fzL, k_fzF, k_fzT, a_fzS, k_fzS, a_parN, k_parN, allS, setNE, a_gTN, a_fzd, k_fzd], fun _ => ⟨?_, rfl⟩, by simp [wipeE]⟩
    have w := e_waysN q j (by omega) (by omega)
    have y1 := ix_lst E j (by omega)
    have y2 := ix_lst E (q - j) (by omega)
    obtain ⟨m1, m2⟩ := tri_mul (cb_pos (n := q) (k := j) (by omega)) (cb_lt (n := q) (k := j) (by omega) (by omega)) (eB j).1 (eB j).2 (eB (q - j)).1 (eB (q - j)).2
    have s3 : dSub [.int ((q : Nat) : Int), .int ((j : Nat) : Int)] = some (.int ((q - j : Nat) : Int)) := congrArg (fun z : Int => some (D.int z)) (by omega)
    have ej : (0 : Int) + (j : Nat) = ((j : Nat) : Int) := by omega
    show u_class_count_1 [some (.int ((q + 1 : Nat) : Int)), some (.int e), some (rD r), some (.lst (I.map .int)), some (.lst (E.map .int)), some (D.int (0 + (j : Nat)))] = R.ok (D.int (tri (cb q j) (E.getD j 0) (E.getD (q - j) 0)), [some (.int ((q + 1 : Nat) : Int)), some (.int e), some (rD r), some (.lst (I.map .int)), some (.lst (E.map .int)), some (D.int (0 + (j : Nat)))])
    rw [ej]
    clear x1 x2 eB lI lE k1 k2 w1 w2 i3 i12 c1 c2
    generalize tri (cb q j) (E.getD j 0) (E.getD (q - j) 0) = T at *
    generalize cb q j * E.getD j 0 = T1 at *
    generalize E.getD j 0 = T2 at *
    generalize E.getD (q - j) 0 = T3 at *
    generalize cb q j = T4 at *
    generalize ((q - j : Nat) : Int) = N1 at *
    generalize ((j : Nat) : Int) = N4 at *
    generalize ((q + 1 : Nat) : Int) = N6 at *
    generalize ((q : Nat) : Int) = N5 at *
    generalize E.map D.int = EL at *
    generalize I.map D.int = IL at *
    unfold u_class_count_1
    have all := And.intro w <| And.intro y1 <| And.intro y2 <| And.intro m1 <| And.intro m2 <| And.intro A0 s3
    clear w y1 y2 m1 m2 A0 s3
    revert all
    refine gen1 F_ways ?_; intro f1
    refine gen1 dMulW ?_; intro d1
    refine gen1 dSub ?_; intro d2
    refine gen1 dIx ?_; intro d3
    rintro ⟨w, y1, y2, m1, m2, A0, s3⟩
    simp [b_ok, b_stuck, b_exc, a_def, f_ok, f_exc, k_rt, k_nx, a_do, a_set, a_set2, a_drop, a_ret, a_unp, a_seq, k_seq, k_seqr, k_seqb, k_seqc, a_op, k_op, a_c, a_var, a_b, k_b, a_then, k_and1, k_and0, k_or1, k_or0, k_andV1, k_andV0, k_orV1, k_orV0, k_if1, k_if0, k_ifS1, k_ifS0, k_ifT1, k_ifT0, k_notV, k_not, a_yes, a_no, a_next, a_never, a_par, k_par, a_for, k_for, a_i1, k_i1, a_io, k_io, a_call, k_call, a_callP, k_callP, a_chain, k_chain, a_mut, k_mut, a_sto, k_sto, a_lc, k_lc, a_new, a_gN, a_gT, d_lt, d_le, d_gt, d_ge, d_intB, ev, rds, chk, pAny, pTup, pInt, takeA, wbE, permL, padE, outE, gNs, own_int, own_bl, own_str, own_non, own_tup, own_ins, own_frl, own_lst, own_dic, dTup, dLst, dAdd, dSub, dMulS, dDiv, dMod, dNeg, dInt, dAbs, dIsN, dNotN, D.isNon, dLen, dItems, dIx, dTru, D.tru, D.seq, fSetL, fAppend, sizeLine_eq, rg1, rg2, rg3, rg4, rg5, rg6, rg7, rg8, a_raise, k_raise, a_par3, k_par3, a_try, kt_ok, kt_exc, hdl, sEnd, dropN, inR, dRev, a_fz, k_fzL, k_fzF, k_fzT, a_fzS, k_fzS, a_parN, k_parN, allS, setNE, a_gTN, a_fzd, k_fzd, w, y1, y2, m1, m2, A0, s3]) (by rw [sizeLine_eq]; simp; omega)
  rw [List.filter_eq_self.mpr (fun _ _ => rfl), List.nil_append] at lc
  have eR : (List.range (q + 1)).map (fun j : Nat => D.int (0 + j)) = dRng 0 (q + 1) := rfl
  have eS : (List.range (q + 1)).map (fun j : Nat => D.int (g j)) = ((List.range (q + 1)).map g).map .int := by rw [List.map_map]; rfl
  rw [eR, eS] at lc
  have sm := sum_lst ((List.range (q + 1)).map g)
  have er := range_1 (q + 1) (by omega)
  have gT : dTup [.int 1, .int 2] = some (.tup [.int 1, .int 2]) := rfl
  show F_class_count [some (.int ((q + 1 : Nat) : Int)), some (.int e), some (rD r)] = .ok (.int (if e = 3 then I.getD (q + 1) 0 else if e = 1 ∨ e = 2 then E.getD (q + 1) 0 else ((List.range (q + 1)).map g).sum), [some (.int ((q + 1 : Nat) : Int)), some (.int e), some (rD r)])
  clear eR eS eB lI lE
  generalize ((List.range (q + 1)).map g).sum = S at *
  generalize ((List.range (q + 1)).map g).map D.int = GL at *
  generalize I.getD (q + 1) 0 = Y1 at *
  generalize E.getD (q + 1) 0 = Y2 at *
  generalize dRng 0 (q + 1) = RG at *
  generalize E.map D.int = EL at *
  generalize I.map D.int = IL at *
  generalize ((q + 1 : Nat) : Int) = N1 at *
  generalize rD r = RR at *
  clear A0
  unfold F_class_count m_class_count
  have all := And.intro w1 <| And.intro w2 <| And.intro k1 <| And.intro k2 <| And.intro lc <| And.intro sm <| And.intro er <| And.intro x1 <| And.intro x2 <| And.intro i3 i12
  clear w1 w2 k1 k2 lc sm er x1 x2 i3 i12
  by_cases z3 : e = 3
  · have z3' : decide (e = 3) = true := decide_eq_true z3
    rw [if_pos z3]
    rw [z3'] at all
    revert all
    refine gen1 u_class_count_1 ?_; intro q1
    refine gen1 F_want_ends ?_; intro f1
    refine gen1 F_want_rule ?_; intro f2
    refine gen1 F_inner_counts ?_; intro f3
    refine gen1 F_end_counts ?_; intro f4
    refine gen1 dSum ?_; intro d1
    refine gen1 dR1 ?_; intro d2
    refine gen1 dIx ?_; intro d3
    refine gen1 dEq ?_; intro d4
    rintro ⟨w1, w2, k1, k2, lc, sm, er, x1, x2, i3, i12⟩
    simp [b_ok, b_stuck, b_exc, a_def, f_ok, f_exc, k_rt, k_nx, a_do, a_set, a_set2, a_drop, a_ret, a_unp, a_seq, k_seq, k_seqr, k_seqb, k_seqc, a_op, k_op, a_c, a_var, a_b, k_b, a_then, k_and1, k_and0, k_or1, k_or0, k_andV1, k_andV0, k_orV1, k_orV0, k_if1, k_if0, k_ifS1, k_ifS0, k_ifT1, k_ifT0, k_notV, k_not, a_yes, a_no, a_next, a_never, a_par, k_par, a_for, k_for, a_i1, k_i1, a_io, k_io, a_call, k_call, a_callP, k_callP, a_chain, k_chain, a_mut, k_mut, a_sto, k_sto, a_lc, k_lc, a_new, a_gN, a_gT, d_lt, d_le, d_gt, d_ge, d_intB, ev, rds, chk, pAny, pTup, pInt, takeA, wbE, permL, padE, outE, gNs, own_int, own_bl, own_str, own_non, own_tup, own_ins, own_frl, own_lst, own_dic, dTup, dLst, dAdd, dSub, dMulS, dDiv, dMod, dNeg, dInt, dAbs, dIsN, dNotN, D.isNon, dLen, dItems, dIx, dTru, D.tru, D.seq, fSetL, fAppend, sizeLine_eq, rg1, rg2, rg3, rg4, rg5, rg6, rg7, rg8, a_raise, k_raise, a_par3, k_par3, a_try, kt_ok, kt_exc, hdl, sEnd, dropN, inR, dRev, a_fz, k_fzL, k_fzF, k_fzT, a_fzS, k_fzS, a_parN, k_parN, allS, setNE, a_gTN, a_fzd, k_fzd, c1, c2, w1, w2, k1, x1, i3, oR]
  · have z3' : decide (e = 3) = false := decide_eq_false z3
    rw [if_neg z3]
    rw [z3'] at all
    by_cases z12 : e = 1 ∨ e = 2
    · have z12' : decide (e = 1 ∨ e = 2) = true := decide_eq_true z12
      rw [if_pos z12]
      rw [z12'] at all
      revert all
      refine gen1 u_class_count_1 ?_; intro q1
      refine gen1 F_want_ends ?_; intro f1
      refine gen1 F_want_rule ?_; intro f2
      refine gen1 F_inner_counts ?_; intro f3
      refine gen1 F_end_counts ?_; intro f4
      refine gen1 dSum ?_; intro d1
      refine gen1 dR1 ?_; intro d2
      refine gen1 dIx ?_; intro d3
      refine gen1 dEq ?_; intro d4
      rintro ⟨w1, w2, k1, k2, lc, sm, er, x1, x2, i3, i12⟩
      simp [b_ok, b_stuck, b_exc, a_def, f_ok, f_exc, k_rt, k_nx, a_do, a_set, a_set2, a_drop, a_ret, a_unp, a_seq, k_seq, k_seqr, k_seqb, k_seqc, a_op, k_op, a_c, a_var, a_b, k_b, a_then, k_and1, k_and0, k_or1, k_or0, k_andV1, k_andV0, k_orV1, k_orV0, k_if1, k_if0, k_ifS1, k_ifS0, k_ifT1, k_ifT0, k_notV, k_not, a_yes, a_no, a_next, a_never, a_par, k_par, a_for, k_for, a_i1, k_i1, a_io, k_io, a_call, k_call, a_callP, k_callP, a_chain, k_chain, a_mut, k_mut, a_sto, k_sto, a_lc, k_lc, a_new, a_gN, a_gT, d_lt, d_le, d_gt, d_ge, d_intB, ev, rds, chk, pAny, pTup, pInt, takeA, wbE, permL, padE, outE, gNs, own_int, own_bl, own_str, own_non, own_tup, own_ins, own_frl, own_lst, own_dic, dTup, dLst, dAdd, dSub, dMulS, dDiv, dMod, dNeg, dInt, dAbs, dIsN, dNotN, D.isNon, dLen, dItems, dIx, dTru, D.tru, D.seq, fSetL, fAppend, sizeLine_eq, rg1, rg2, rg3, rg4, rg5, rg6, rg7, rg8, a_raise, k_raise, a_par3, k_par3, a_try, kt_ok, kt_exc, hdl, sEnd, dropN, inR, dRev, a_fz, k_fzL, k_fzF, k_fzT, a_fzS, k_fzS, a_parN, k_parN, allS, setNE, a_gTN, a_fzd, k_fzd, c1, c2, w1, w2, k1, k2, x2, i3, i12, gT, oR, -dTup]
    · have z12' : decide (e = 1 ∨ e = 2) = false := decide_eq_false z12
      rw [if_neg z12]
      rw [z12'] at all
      revert all
      refine gen1 u_class_count_1 ?_; intro q1
      refine gen1 F_want_ends ?_; intro f1
      refine gen1 F_want_rule ?_; intro f2
      refine gen1 F_inner_counts ?_; intro f3
      refine gen1 F_end_counts ?_; intro f4
      refine gen1 dSum ?_; intro d1
      refine gen1 dR1 ?_; intro d2
      refine gen1 dIx ?_; intro d3
      refine gen1 dEq ?_; intro d4
      rintro ⟨w1, w2, k1, k2, lc, sm, er, x1, x2, i3, i12⟩
      simp [b_ok, b_stuck, b_exc, a_def, f_ok, f_exc, k_rt, k_nx, a_do, a_set, a_set2, a_drop, a_ret, a_unp, a_seq, k_seq, k_seqr, k_seqb, k_seqc, a_op, k_op, a_c, a_var, a_b, k_b, a_then, k_and1, k_and0, k_or1, k_or0, k_andV1, k_andV0, k_orV1, k_orV0, k_if1, k_if0, k_ifS1, k_ifS0, k_ifT1, k_ifT0, k_notV, k_not, a_yes, a_no, a_next, a_never, a_par, k_par, a_for, k_for, a_i1, k_i1, a_io, k_io, a_call, k_call, a_callP, k_callP, a_chain, k_chain, a_mut, k_mut, a_sto, k_sto, a_lc, k_lc, a_new, a_gN, a_gT, d_lt, d_le, d_gt, d_ge, d_intB, ev, rds, chk, pAny, pTup, pInt, takeA, wbE, permL, padE, outE, gNs, own_int, own_bl, own_str, own_non, own_tup, own_ins, own_frl, own_lst, own_dic, dTup, dLst, dAdd, dSub, dMulS, dDiv, dMod, dNeg, dInt, dAbs, dIsN, dNotN, D.isNon, dLen, dItems, dIx, dTru, D.tru, D.seq, fSetL, fAppend, sizeLine_eq, rg1, rg2, rg3, rg4, rg5, rg6, rg7, rg8, a_raise, k_raise, a_par3, k_par3, a_try, kt_ok, kt_exc, hdl, sEnd, dropN, inR, dRev, a_fz, k_fzL, k_fzF, k_fzT, a_fzS, k_fzS, a_parN, k_parN, allS, setNE, a_gTN, a_fzd, k_fzd, wipeE, c1, c2, w1, w2, k1, k2, lc, sm, er, i3, i12, gT, oR, -dTup]
end K54
namespace K54
open PySem TV
theorem lam_exc {os : List Opd} {FT : DO → FV} {mb : ME} {ρ ρ1 ρ2 τ : TV.Env} {ps : List (Option D)} {ds : List D} {c : Nat} {w z : D} (h1 : ev os ρ = .ok (ps, ρ1)) (h2 : rds os ps ρ1 = some ds) (h3 : ds.all (fun d => !d.own) = true) (h4 : mb ρ1 = .exc c w ρ2) (h6 : FT (.exc c w) (none :: ds.map some) = .ok (z, τ)) (h7 : z.own = false) : mLam os FT mb ρ = .ok (z, ρ2) := by
  unfold mLam
  rw [h1]
  show (match rds os ps ρ1 with | some ds => if ds.all (fun d => !d.own) = true then kLam FT (none :: ds.map some) (mb ρ1) else .stuck | none => .stuck) = _
  rw [h2]
  simp only [if_pos h3, h4]
  unfold kLam
  simp [h6, h7]
theorem for_exc {tg : D → TV.Env → R TV.Env} {b : MS} {I : Nat → TV.Env → Prop} {J : TV.Env → Prop} {c : Nat} {w : D} : ∀ (n : Nat) (ds : List D) (k : Nat) (ρ : TV.Env), n < ds.length →
    (∀ j d ρ, j < n → ds[j]? = some d → I (k + j) ρ → ∃ ρ1 ρ2, tg d ρ = .ok ρ1 ∧ b ρ1 = .ok (.nx, ρ2) ∧ I (k + j + 1) ρ2) →
    (∀ d ρ, ds[n]? = some d → I (k + n) ρ → ∃ ρ1 ρ2, tg d ρ = .ok ρ1 ∧ b ρ1 = .exc c w ρ2 ∧ J ρ2) → I k ρ → ∃ ρ', forL tg b ds ρ = .exc c w ρ' ∧ J ρ'
  | _, [], _, _, h, _, _, _ => absurd h (by simp)
  | 0, d :: ds, k, ρ, _, _, last, hI => by
    obtain ⟨ρ1, ρ2, e1, e2, h2⟩ := last d ρ rfl hI
    refine ⟨ρ2, ?_, h2⟩
    unfold forL
    rw [e1]
    simp only [b_ok]
    rw [e2]
    rfl
  | n + 1, d :: ds, k, ρ, hn, st, last, hI => by
    obtain ⟨ρ1, ρ2, e1, e2, h2⟩ := st 0 d ρ (by omega) rfl hI
    obtain ⟨ρ', e3, h3⟩ := for_exc n ds (k + 1) ρ2 (by simpa using hn) (fun j d' ρ0 hj e hI => by
      have := st (j + 1) d' ρ0 (by omega) e (by rw [show k + (j + 1) = k + 1 + j by omega]; exact hI)
      rw [show k + (j + 1) + 1 = k + 1 + j + 1 by omega] at this
      exact this) (fun d' ρ0 e hI => last d' ρ0 e (by rw [show k + (n + 1) = k + 1 + n by omega]; exact hI)) h2
    refine ⟨ρ', ?_, h3⟩
    unfold forL
    rw [e1]
    simp only [b_ok]
    rw [e2]
    exact e3
def badR (L : List Int) (i : Nat) : Bool := !(decide (2 ≤ L.getD i 0) && decide (L.getD i 0 ≤ 40)) || (decide (0 < i) && decide (L.getD i 0 ≤ L.getD (i - 1) 0))
def badsR (L : List Int) : List Nat := (List.range L.length).filter (badR L)
theorem badsR_first {L : List Int} {f : Nat} {fs : List Nat} (h : badsR L = f :: fs) : f < L.length ∧ badR L f = true ∧ ∀ i < f, badR L i = false := by
  have hf : f ∈ badsR L := by rw [h]; exact List.mem_cons_self
  obtain ⟨m, b⟩ := List.mem_filter.mp hf
  refine ⟨List.mem_range.mp m, b, fun i hi => ?_⟩
  cases c : badR L i
  · rfl
  · exfalso
    have hm : i ∈ badsR L := List.mem_filter.mpr ⟨List.mem_range.mpr (by have := List.mem_range.mp m; omega), c⟩
    have pw : (badsR L).Pairwise (· < ·) := List.Pairwise.filter _ List.pairwise_lt_range
    rw [h] at hm pw
    rcases List.mem_cons.mp hm with e | hm
    · omega
    · have := (List.pairwise_cons.mp pw).1 i hm
      omega
theorem wr_bad (L : List Int) (f : Nat) (hf : f < L.length) (bf : badR L f = true) (gf : ∀ i < f, badR L i = false) : F_want_rule [some (.tup (L.map .int))] = .exc ix_BadRule (.int (f : Nat)) [some (.tup (L.map .int))] := by
  have pick : ∀ {j : Nat} {d : D}, (enD 0 (L.map D.int))[j]? = some d → j < L.length ∧ d = .tup [.int ((j : Nat) : Int), .int (L.getD j 0)] := fun {j d} hd => by
    obtain ⟨x, hx, rfl⟩ := enD_get hd
    rw [List.getElem?_map, Option.map_eq_some_iff] at hx
    obtain ⟨y, hy, rfl⟩ := hx
    obtain ⟨h1, h2⟩ := List.getElem?_eq_some_iff.mp hy
    refine ⟨h1, ?_⟩
    rw [List.getD_eq_getElem?_getD, hy, Nat.zero_add]
    rfl
  obtain ⟨ρ', e1, q2, q3, q4, rfl⟩ := for_exc (tg := gT [2, 3]) (b := b_want_rule_1) (c := ix_BadRule) (w := .int ((f : Nat) : Int)) (I := fun k ρ => ∃ o3 o4 : Option D, ρ = [some (.tup (L.map .int)), some (.int (if k = 0 then 1 else L.getD (k - 1) 0)), o3, o4]) (J := fun ρ => ∃ q2 q3 q4 : Option D, ρ = [some (.tup (L.map .int)), q2, q3, q4])
    f (enD 0 (L.map D.int)) 0 [some (.tup (L.map .int)), some (.int 1), none, none] (by rw [enD_len, List.length_map]; exact hf) (fun j d ρ hj hd hI => by
      obtain ⟨o3, o4, rfl⟩ := hI
      obtain ⟨hl, rfl⟩ := pick hd
      rw [Nat.zero_add]
      have g := gf j hj
      unfold badR at g
      rw [Bool.or_eq_false_iff, Bool.not_eq_false', Bool.and_eq_true, decide_eq_true_eq, decide_eq_true_eq, Bool.and_eq_false_iff, decide_eq_false_iff_not, decide_eq_false_iff_not] at g
      have c1 : (if j = 0 then (1 : Int) else L.getD (j - 1) 0) < L.getD j 0 := by
        split <;> omega
      have c2 : L.getD j 0 ≤ 40 := g.1.2
      refine ⟨_, _, rfl, ?_, some (.int ((j : Nat) : Int)), some (.int (L.getD j 0)), rfl⟩
      have e : (if j + 1 = 0 then (1 : Int) else L.getD (j + 1 - 1) 0) = L.getD j 0 := by simp
      rw [e]
      show b_want_rule_1 [some (.tup (L.map .int)), some (.int (if j = 0 then 1 else L.getD (j - 1) 0)), some (.int ((j : Nat) : Int)), some (.int (L.getD j 0))] = _
      clear e g
      generalize (if j = 0 then (1 : Int) else L.getD (j - 1) 0) = B at *
      generalize L.getD j 0 = P at *
      generalize ((j : Nat) : Int) = J at *
      generalize D.tup (L.map .int) = T at *
      unfold b_want_rule_1
      simp [b_ok, b_stuck, b_exc, a_def, f_ok, f_exc, k_rt, k_nx, a_do, a_set, a_set2, a_drop, a_ret, a_unp, a_seq, k_seq, k_seqr, k_seqb, k_seqc, a_op, k_op, a_c, a_var, a_b, k_b, a_then, k_and1, k_and0, k_or1, k_or0, k_andV1, k_andV0, k_orV1, k_orV0, k_if1, k_if0, k_ifS1, k_ifS0, k_ifT1, k_ifT0, k_notV, k_not, a_yes, a_no, a_next, a_never, a_par, k_par, a_for, k_for, a_i1, k_i1, a_io, k_io, a_call, k_call, a_callP, k_callP, a_chain, k_chain, a_mut, k_mut, a_sto, k_sto, a_lc, k_lc, a_new, a_gN, a_gT, d_lt, d_le, d_gt, d_ge, d_intB, ev, rds, chk, pAny, pTup, pInt, takeA, wbE, permL, padE, outE, gNs, own_int, own_bl, own_str, own_non, own_tup, own_ins, own_frl, own_lst, own_dic, dTup, dLst, dAdd, dSub, dMulS, dDiv, dMod, dNeg, dInt, dAbs, dIsN, dNotN, D.isNon, dLen, dItems, dIx, dTru, D.tru, D.seq, fSetL, fAppend, sizeLine_eq, rg1, rg2, rg3, rg4, rg5, rg6, rg7, rg8, a_raise, k_raise, a_par3, k_par3, a_try, kt_ok, kt_exc, hdl, sEnd, dropN, inR, dRev, a_fz, k_fzL, k_fzF, k_fzT, a_fzS, k_fzS, a_parN, k_parN, allS, setNE, a_gTN, a_fzd, k_fzd, c1, c2]) (fun d ρ hd hI => by
      obtain ⟨o3, o4, rfl⟩ := hI
      obtain ⟨hl, rfl⟩ := pick hd
      rw [Nat.zero_add]
      have c : ¬ ((if f = 0 then (1 : Int) else L.getD (f - 1) 0) < L.getD f 0 ∧ L.getD f 0 ≤ 40) := fun z => by
        have b := bf
        unfold badR at b
        rw [Bool.or_eq_true, Bool.not_eq_true', Bool.and_eq_false_iff, decide_eq_false_iff_not, decide_eq_false_iff_not, Bool.and_eq_true, decide_eq_true_eq, decide_eq_true_eq] at b
        by_cases f0 : f = 0
        · rw [if_pos f0] at z
          omega
        · rw [if_neg f0] at z
          have g := gf (f - 1) (by omega)
          unfold badR at g
          rw [Bool.or_eq_false_iff, Bool.not_eq_false', Bool.and_eq_true, decide_eq_true_eq, decide_eq_true_eq] at g
          omega
      refine ⟨_, [some (.tup (L.map .int)), some (.int (if f = 0 then 1 else L.getD (f - 1) 0)), some (.int ((f : Nat) : Int)), some (.int (L.getD f 0))], rfl, ?_, _, _, _, rfl⟩
      show b_want_rule_1 [some (.tup (L.map .int)), some (.int (if f = 0 then 1 else L.getD (f - 1) 0)), some (.int ((f : Nat) : Int)), some (.int (L.getD f 0))] = _
      generalize (if f = 0 then (1 : Int) else L.getD (f - 1) 0) = B at *
      generalize L.getD f 0 = P at *
      generalize ((f : Nat) : Int) = J at *
      generalize D.tup (L.map .int) = T at *
      clear pick
      unfold b_want_rule_1
      by_cases z1 : B < P
      · have z2 : ¬ P ≤ 40 := fun z => c ⟨z1, z⟩
        simp [b_ok, b_stuck, b_exc, a_def, f_ok, f_exc, k_rt, k_nx, a_do, a_set, a_set2, a_drop, a_ret, a_unp, a_seq, k_seq, k_seqr, k_seqb, k_seqc, a_op, k_op, a_c, a_var, a_b, k_b, a_then, k_and1, k_and0, k_or1, k_or0, k_andV1, k_andV0, k_orV1, k_orV0, k_if1, k_if0, k_ifS1, k_ifS0, k_ifT1, k_ifT0, k_notV, k_not, a_yes, a_no, a_next, a_never, a_par, k_par, a_for, k_for, a_i1, k_i1, a_io, k_io, a_call, k_call, a_callP, k_callP, a_chain, k_chain, a_mut, k_mut, a_sto, k_sto, a_lc, k_lc, a_new, a_gN, a_gT, d_lt, d_le, d_gt, d_ge, d_intB, ev, rds, chk, pAny, pTup, pInt, takeA, wbE, permL, padE, outE, gNs, own_int, own_bl, own_str, own_non, own_tup, own_ins, own_frl, own_lst, own_dic, dTup, dLst, dAdd, dSub, dMulS, dDiv, dMod, dNeg, dInt, dAbs, dIsN, dNotN, D.isNon, dLen, dItems, dIx, dTru, D.tru, D.seq, fSetL, fAppend, sizeLine_eq, rg1, rg2, rg3, rg4, rg5, rg6, rg7, rg8, a_raise, k_raise, a_par3, k_par3, a_try, kt_ok, kt_exc, hdl, sEnd, dropN, inR, dRev, a_fz, k_fzL, k_fzF, k_fzT, a_fzS, k_fzS, a_parN, k_parN, allS, setNE, a_gTN, a_fzd, k_fzd, z1, z2]
      · simp [b_ok, b_stuck, b_exc, a_def, f_ok, f_exc, k_rt, k_nx, a_do, a_set, a_set2, a_drop, a_ret, a_unp, a_seq, k_seq, k_seqr, k_seqb, k_seqc, a_op, k_op, a_c, a_var, a_b, k_b, a_then, k_and1, k_and0, k_or1, k_or0, k_andV1, k_andV0, k_orV1, k_orV0, k_if1, k_if0, k_ifS1, k_ifS0, k_ifT1, k_ifT0, k_notV, k_not, a_yes, a_no, a_next, a_never, a_par, k_par, a_for, k_for, a_i1, k_i1, a_io, k_io, a_call, k_call, a_callP, k_callP, a_chain, k_chain, a_mut, k_mut, a_sto, k_sto, a_lc, k_lc, a_new, a_gN, a_gT, d_lt, d_le, d_gt, d_ge, d_intB, ev, rds, chk, pAny, pTup, pInt, takeA, wbE, permL, padE, outE, gNs, own_int, own_bl, own_str, own_non, own_tup, own_ins, own_frl, own_lst, own_dic, dTup, dLst, dAdd, dSub, dMulS, dDiv, dMod, dNeg, dInt, dAbs, dIsN, dNotN, D.isNon, dLen, dItems, dIx, dTru, D.tru, D.seq, fSetL, fAppend, sizeLine_eq, rg1, rg2, rg3, rg4, rg5, rg6, rg7, rg8, a_raise, k_raise, a_par3, k_par3, a_try, kt_ok, kt_exc, hdl, sEnd, dropN, inR, dRev, a_fz, k_fzL, k_fzF, k_fzT, a_fzS, k_fzS, a_parN, k_parN, allS, setNE, a_gTN, a_fzd, k_fzd, z1]) ⟨none, none, rfl⟩
  have en : dEnum (.tup (L.map .int)) = some (enD 0 (L.map D.int)) := rfl
  have sb1 : dSub [.int 2, .int 1] = some (.int 1) := rfl
  have nn : dIsN [.tup (L.map .int), .non] = some (.bl false) := rfl
  have oT : (D.tup (L.map .int)).own = false := rfl
  clear pick
  unfold F_want_rule m_want_rule
  generalize enD 0 (L.map D.int) = EL at *
  generalize D.tup (L.map .int) = T at *
  generalize ((f : Nat) : Int) = J at *
  have all := And.intro e1 <| And.intro en <| And.intro sb1 nn
  clear e1 en sb1 nn
  revert all
  refine gen1 b_want_rule_1 ?_; intro q1
  refine gen1 dEnum ?_; intro d1
  refine gen1 dSub ?_; intro d2
  refine gen1 dIsN ?_; intro d3
  rintro ⟨e1, en, sb1, nn⟩
  simp [b_ok, b_stuck, b_exc, a_def, f_ok, f_exc, k_rt, k_nx, a_do, a_set, a_set2, a_drop, a_ret, a_unp, a_seq, k_seq, k_seqr, k_seqb, k_seqc, a_op, k_op, a_c, a_var, a_b, k_b, a_then, k_and1, k_and0, k_or1, k_or0, k_andV1, k_andV0, k_orV1, k_orV0, k_if1, k_if0, k_ifS1, k_ifS0, k_ifT1, k_ifT0, k_notV, k_not, a_yes, a_no, a_next, a_never, a_par, k_par, a_for, k_for, a_i1, k_i1, a_io, k_io, a_call, k_call, a_callP, k_callP, a_chain, k_chain, a_mut, k_mut, a_sto, k_sto, a_lc, k_lc, a_new, a_gN, a_gT, d_lt, d_le, d_gt, d_ge, d_intB, ev, rds, chk, pAny, pTup, pInt, takeA, wbE, permL, padE, outE, gNs, own_int, own_bl, own_str, own_non, own_tup, own_ins, own_frl, own_lst, own_dic, dTup, dLst, dAdd, dSub, dMulS, dDiv, dMod, dNeg, dInt, dAbs, dIsN, dNotN, D.isNon, dLen, dItems, dIx, dTru, D.tru, D.seq, fSetL, fAppend, sizeLine_eq, rg1, rg2, rg3, rg4, rg5, rg6, rg7, rg8, a_raise, k_raise, a_par3, k_par3, a_try, kt_ok, kt_exc, hdl, sEnd, dropN, inR, dRev, a_fz, k_fzL, k_fzF, k_fzT, a_fzS, k_fzS, a_parN, k_parN, allS, setNE, a_gTN, a_fzd, k_fzd, ↓e1, en, sb1, nn, oT]
theorem we_bad (e : Int) (h : e < 0 ∨ 3 < e) : F_want_ends [some (.int e)] = .exc ix_BadEnds (.int e) [some (.int e)] := by
  unfold F_want_ends m_want_ends
  by_cases h1 : 0 ≤ e
  · have h2 : ¬ e ≤ 3 := by omega
    simp [b_ok, b_stuck, b_exc, a_def, f_ok, f_exc, k_rt, k_nx, a_do, a_set, a_set2, a_drop, a_ret, a_unp, a_seq, k_seq, k_seqr, k_seqb, k_seqc, a_op, k_op, a_c, a_var, a_b, k_b, a_then, k_and1, k_and0, k_or1, k_or0, k_andV1, k_andV0, k_orV1, k_orV0, k_if1, k_if0, k_ifS1, k_ifS0, k_ifT1, k_ifT0, k_notV, k_not, a_yes, a_no, a_next, a_never, a_par, k_par, a_for, k_for, a_i1, k_i1, a_io, k_io, a_call, k_call, a_callP, k_callP, a_chain, k_chain, a_mut, k_mut, a_sto, k_sto, a_lc, k_lc, a_new, a_gN, a_gT, d_lt, d_le, d_gt, d_ge, d_intB, ev, rds, chk, pAny, pTup, pInt, takeA, wbE, permL, padE, outE, gNs, own_int, own_bl, own_str, own_non, own_tup, own_ins, own_frl, own_lst, own_dic, dTup, dLst, dAdd, dSub, dMulS, dDiv, dMod, dNeg, dInt, dAbs, dIsN, dNotN, D.isNon, dLen, dItems, dIx, dTru, D.tru, D.seq, fSetL, fAppend, sizeLine_eq, rg1, rg2, rg3, rg4, rg5, rg6, rg7, rg8, a_raise, k_raise, a_par3, k_par3, a_try, kt_ok, kt_exc, hdl, sEnd, dropN, inR, dRev, a_fz, k_fzL, k_fzF, k_fzT, a_fzS, k_fzS, a_parN, k_parN, allS, setNE, a_gTN, a_fzd, k_fzd, h1, h2]
  · simp [b_ok, b_stuck, b_exc, a_def, f_ok, f_exc, k_rt, k_nx, a_do, a_set, a_set2, a_drop, a_ret, a_unp, a_seq, k_seq, k_seqr, k_seqb, k_seqc, a_op, k_op, a_c, a_var, a_b, k_b, a_then, k_and1, k_and0, k_or1, k_or0, k_andV1, k_andV0, k_orV1, k_orV0, k_if1, k_if0, k_ifS1, k_ifS0, k_ifT1, k_ifT0, k_notV, k_not, a_yes, a_no, a_next, a_never, a_par, k_par, a_for, k_for, a_i1, k_i1, a_io, k_io, a_call, k_call, a_callP, k_callP, a_chain, k_chain, a_mut, k_mut, a_sto, k_sto, a_lc, k_lc, a_new, a_gN, a_gT, d_lt, d_le, d_gt, d_ge, d_intB, ev, rds, chk, pAny, pTup, pInt, takeA, wbE, permL, padE, outE, gNs, own_int, own_bl, own_str, own_non, own_tup, own_ins, own_frl, own_lst, own_dic, dTup, dLst, dAdd, dSub, dMulS, dDiv, dMod, dNeg, dInt, dAbs, dIsN, dNotN, D.isNon, dLen, dItems, dIx, dTru, D.tru, D.seq, fSetL, fAppend, sizeLine_eq, rg1, rg2, rg3, rg4, rg5, rg6, rg7, rg8, a_raise, k_raise, a_par3, k_par3, a_try, kt_ok, kt_exc, hdl, sEnd, dropN, inR, dRev, a_fz, k_fzL, k_fzF, k_fzT, a_fzS, k_fzS, a_parN, k_parN, allS, setNE, a_gTN, a_fzd, k_fzd, h1]
theorem cc_size (n e : Int) (h : n < 1 ∨ 60 < n) (R : D) (oR : R.own = false) : F_class_count [some (.int n), some (.int e), some R] = .exc ix_BadSize (.int n) [some (.int n), some (.int e), some R] := by
  unfold F_class_count m_class_count
  by_cases h1 : 1 ≤ n
  · have h2 : ¬ n ≤ 60 := by omega
    simp [b_ok, b_stuck, b_exc, a_def, f_ok, f_exc, k_rt, k_nx, a_do, a_set, a_set2, a_drop, a_ret, a_unp, a_seq, k_seq, k_seqr, k_seqb, k_seqc, a_op, k_op, a_c, a_var, a_b, k_b, a_then, k_and1, k_and0, k_or1, k_or0, k_andV1, k_andV0, k_orV1, k_orV0, k_if1, k_if0, k_ifS1, k_ifS0, k_ifT1, k_ifT0, k_notV, k_not, a_yes, a_no, a_next, a_never, a_par, k_par, a_for, k_for, a_i1, k_i1, a_io, k_io, a_call, k_call, a_callP, k_callP, a_chain, k_chain, a_mut, k_mut, a_sto, k_sto, a_lc, k_lc, a_new, a_gN, a_gT, d_lt, d_le, d_gt, d_ge, d_intB, ev, rds, chk, pAny, pTup, pInt, takeA, wbE, permL, padE, outE, gNs, own_int, own_bl, own_str, own_non, own_tup, own_ins, own_frl, own_lst, own_dic, dTup, dLst, dAdd, dSub, dMulS, dDiv, dMod, dNeg, dInt, dAbs, dIsN, dNotN, D.isNon, dLen, dItems, dIx, dTru, D.tru, D.seq, fSetL, fAppend, sizeLine_eq, rg1, rg2, rg3, rg4, rg5, rg6, rg7, rg8, a_raise, k_raise, a_par3, k_par3, a_try, kt_ok, kt_exc, hdl, sEnd, dropN, inR, dRev, a_fz, k_fzL, k_fzF, k_fzT, a_fzS, k_fzS, a_parN, k_parN, allS, setNE, a_gTN, a_fzd, k_fzd, h1, h2]
  · simp [b_ok, b_stuck, b_exc, a_def, f_ok, f_exc, k_rt, k_nx, a_do, a_set, a_set2, a_drop, a_ret, a_unp, a_seq, k_seq, k_seqr, k_seqb, k_seqc, a_op, k_op, a_c, a_var, a_b, k_b, a_then, k_and1, k_and0, k_or1, k_or0, k_andV1, k_andV0, k_orV1, k_orV0, k_if1, k_if0, k_ifS1, k_ifS0, k_ifT1, k_ifT0, k_notV, k_not, a_yes, a_no, a_next, a_never, a_par, k_par, a_for, k_for, a_i1, k_i1, a_io, k_io, a_call, k_call, a_callP, k_callP, a_chain, k_chain, a_mut, k_mut, a_sto, k_sto, a_lc, k_lc, a_new, a_gN, a_gT, d_lt, d_le, d_gt, d_ge, d_intB, ev, rds, chk, pAny, pTup, pInt, takeA, wbE, permL, padE, outE, gNs, own_int, own_bl, own_str, own_non, own_tup, own_ins, own_frl, own_lst, own_dic, dTup, dLst, dAdd, dSub, dMulS, dDiv, dMod, dNeg, dInt, dAbs, dIsN, dNotN, D.isNon, dLen, dItems, dIx, dTru, D.tru, D.seq, fSetL, fAppend, sizeLine_eq, rg1, rg2, rg3, rg4, rg5, rg6, rg7, rg8, a_raise, k_raise, a_par3, k_par3, a_try, kt_ok, kt_exc, hdl, sEnd, dropN, inR, dRev, a_fz, k_fzL, k_fzF, k_fzT, a_fzS, k_fzS, a_parN, k_parN, allS, setNE, a_gTN, a_fzd, k_fzd, h1]
theorem cc_ends (n e : Int) (h1 : 1 ≤ n) (h2 : n ≤ 60) (he : e < 0 ∨ 3 < e) (R : D) (oR : R.own = false) : F_class_count [some (.int n), some (.int e), some R] = .exc ix_BadEnds (.int e) [some (.int n), some (.int e), some R] := by
  have k := we_bad e he
  unfold F_class_count m_class_count
  revert k
  refine gen1 F_want_ends ?_; intro f1 k
  simp [b_ok, b_stuck, b_exc, a_def, f_ok, f_exc, k_rt, k_nx, a_do, a_set, a_set2, a_drop, a_ret, a_unp, a_seq, k_seq, k_seqr, k_seqb, k_seqc, a_op, k_op, a_c, a_var, a_b, k_b, a_then, k_and1, k_and0, k_or1, k_or0, k_andV1, k_andV0, k_orV1, k_orV0, k_if1, k_if0, k_ifS1, k_ifS0, k_ifT1, k_ifT0, k_notV, k_not, a_yes, a_no, a_next, a_never, a_par, k_par, a_for, k_for, a_i1, k_i1, a_io, k_io, a_call, k_call, a_callP, k_callP, a_chain, k_chain, a_mut, k_mut, a_sto, k_sto, a_lc, k_lc, a_new, a_gN, a_gT, d_lt, d_le, d_gt, d_ge, d_intB, ev, rds, chk, pAny, pTup, pInt, takeA, wbE, permL, padE, outE, gNs, own_int, own_bl, own_str, own_non, own_tup, own_ins, own_frl, own_lst, own_dic, dTup, dLst, dAdd, dSub, dMulS, dDiv, dMod, dNeg, dInt, dAbs, dIsN, dNotN, D.isNon, dLen, dItems, dIx, dTru, D.tru, D.seq, fSetL, fAppend, sizeLine_eq, rg1, rg2, rg3, rg4, rg5, rg6, rg7, rg8, a_raise, k_raise, a_par3, k_par3, a_try, kt_ok, kt_exc, hdl, sEnd, dropN, inR, dRev, a_fz, k_fzL, k_fzF, k_fzT, a_fzS, k_fzS, a_parN, k_parN, allS, setNE, a_gTN, a_fzd, k_fzd, h1, h2, k]
theorem cc_rule (n e : Int) (h1 : 1 ≤ n) (h2 : n ≤ 60) (he : 0 ≤ e ∧ e ≤ 3) (L : List Int) (f : Nat) (hf : f < L.length) (bf : badR L f = true) (gf : ∀ i < f, badR L i = false) : F_class_count [some (.int n), some (.int e), some (.tup (L.map .int))] = .exc ix_BadRule (.int (f : Nat)) [some (.int n), some (.int e), some (.tup (L.map .int))] := by
  have k := e_want_ends e he.1 he.2
  have k2 := wr_bad L f hf bf gf
  have oT : (D.tup (L.map .int)).own = false := rfl
  unfold F_class_count m_class_count
  generalize ((f : Nat) : Int) = J at *
  generalize D.tup (L.map .int) = T at *
  have all := And.intro k k2
  clear k k2
  revert all
  refine gen1 F_want_ends ?_; intro f1
  refine gen1 F_want_rule ?_; intro f2
  rintro ⟨k, k2⟩
  simp [b_ok, b_stuck, b_exc, a_def, f_ok, f_exc, k_rt, k_nx, a_do, a_set, a_set2, a_drop, a_ret, a_unp, a_seq, k_seq, k_seqr, k_seqb, k_seqc, a_op, k_op, a_c, a_var, a_b, k_b, a_then, k_and1, k_and0, k_or1, k_or0, k_andV1, k_andV0, k_orV1, k_orV0, k_if1, k_if0, k_ifS1, k_ifS0, k_ifT1, k_ifT0, k_notV, k_not, a_yes, a_no, a_next, a_never, a_par, k_par, a_for, k_for, a_i1, k_i1, a_io, k_io, a_call, k_call, a_callP, k_callP, a_chain, k_chain, a_mut, k_mut, a_sto, k_sto, a_lc, k_lc, a_new, a_gN, a_gT, d_lt, d_le, d_gt, d_ge, d_intB, ev, rds, chk, pAny, pTup, pInt, takeA, wbE, permL, padE, outE, gNs, own_int, own_bl, own_str, own_non, own_tup, own_ins, own_frl, own_lst, own_dic, dTup, dLst, dAdd, dSub, dMulS, dDiv, dMod, dNeg, dInt, dAbs, dIsN, dNotN, D.isNon, dLen, dItems, dIx, dTru, D.tru, D.seq, fSetL, fAppend, sizeLine_eq, rg1, rg2, rg3, rg4, rg5, rg6, rg7, rg8, a_raise, k_raise, a_par3, k_par3, a_try, kt_ok, kt_exc, hdl, sEnd, dropN, inR, dRev, a_fz, k_fzL, k_fzF, k_fzT, a_fzS, k_fzS, a_parN, k_parN, allS, setNE, a_gTN, a_fzd, k_fzd, h1, h2, k, k2, oT]
theorem w_size (w : D) : W__law_word ix_BadSize w = some (.str "size") := by
  have h1 : sb ix_BadSize 1 = true := by decide
  have h2 : sb ix_BadSize 2 = false := by decide
  have h3 : sb ix_BadSize 3 = false := by decide
  have c : fCntB [.bl true, .bl false, .bl false] [.bl true] = some ([.bl true, .bl false, .bl false], .int 1) := by rfl
  have x : fIxB [.bl true, .bl false, .bl false] [.bl true] = some ([.bl true, .bl false, .bl false], .int 0) := by rfl
  have q : dEq [.int 1, .int 1] = some (.bl true) := d_eq
  have g : dIx [.lst [.str "size", .str "ends", .str "rule"], .int 0] = some (.str "size") := by rfl
  unfold W__law_word fWord m__law_word
  simp [b_ok, b_stuck, b_exc, a_def, f_ok, f_exc, k_rt, k_nx, a_do, a_set, a_set2, a_drop, a_ret, a_unp, a_seq, k_seq, k_seqr, k_seqb, k_seqc, a_op, k_op, a_c, a_var, a_b, k_b, a_then, k_and1, k_and0, k_or1, k_or0, k_andV1, k_andV0, k_orV1, k_orV0, k_if1, k_if0, k_ifS1, k_ifS0, k_ifT1, k_ifT0, k_notV, k_not, a_yes, a_no, a_next, a_never, a_par, k_par, a_for, k_for, a_i1, k_i1, a_io, k_io, a_call, k_call, a_callP, k_callP, a_chain, k_chain, a_mut, k_mut, a_sto, k_sto, a_lc, k_lc, a_new, a_gN, a_gT, d_lt, d_le, d_gt, d_ge, d_intB, ev, rds, chk, pAny, pTup, pInt, takeA, wbE, permL, padE, outE, gNs, own_int, own_bl, own_str, own_non, own_tup, own_ins, own_frl, own_lst, own_dic, dTup, dLst, dAdd, dSub, dMulS, dDiv, dMod, dNeg, dInt, dAbs, dIsN, dNotN, D.isNon, dLen, dItems, dIx, dTru, D.tru, D.seq, fSetL, fAppend, sizeLine_eq, rg1, rg2, rg3, rg4, rg5, rg6, rg7, rg8, a_raise, k_raise, a_par3, k_par3, a_try, kt_ok, kt_exc, hdl, sEnd, dropN, inR, dRev, a_fz, k_fzL, k_fzF, k_fzT, a_fzS, k_fzS, a_parN, k_parN, allS, setNE, a_gTN, a_fzd, k_fzd, List.replicate, h1, h2, h3, c, x, q, g, -dIx]
theorem w_ends (w : D) : W__law_word ix_BadEnds w = some (.str "ends") := by
  have h1 : sb ix_BadEnds 1 = false := by decide
  have h2 : sb ix_BadEnds 2 = true := by decide
  have h3 : sb ix_BadEnds 3 = false := by decide
  have c : fCntB [.bl false, .bl true, .bl false] [.bl true] = some ([.bl false, .bl true, .bl false], .int 1) := by rfl
  have x : fIxB [.bl false, .bl true, .bl false] [.bl true] = some ([.bl false, .bl true, .bl false], .int 1) := by rfl
  have q : dEq [.int 1, .int 1] = some (.bl true) := d_eq
  have g : dIx [.lst [.str "size", .str "ends", .str "rule"], .int 1] = some (.str "ends") := by rfl
  unfold W__law_word fWord m__law_word
  simp [b_ok, b_stuck, b_exc, a_def, f_ok, f_exc, k_rt, k_nx, a_do, a_set, a_set2, a_drop, a_ret, a_unp, a_seq, k_seq, k_seqr, k_seqb, k_seqc, a_op, k_op, a_c, a_var, a_b, k_b, a_then, k_and1, k_and0, k_or1, k_or0, k_andV1, k_andV0, k_orV1, k_orV0, k_if1, k_if0, k_ifS1, k_ifS0, k_ifT1, k_ifT0, k_notV, k_not, a_yes, a_no, a_next, a_never, a_par, k_par, a_for, k_for, a_i1, k_i1, a_io, k_io, a_call, k_call, a_callP, k_callP, a_chain, k_chain, a_mut, k_mut, a_sto, k_sto, a_lc, k_lc, a_new, a_gN, a_gT, d_lt, d_le, d_gt, d_ge, d_intB, ev, rds, chk, pAny, pTup, pInt, takeA, wbE, permL, padE, outE, gNs, own_int, own_bl, own_str, own_non, own_tup, own_ins, own_frl, own_lst, own_dic, dTup, dLst, dAdd, dSub, dMulS, dDiv, dMod, dNeg, dInt, dAbs, dIsN, dNotN, D.isNon, dLen, dItems, dIx, dTru, D.tru, D.seq, fSetL, fAppend, sizeLine_eq, rg1, rg2, rg3, rg4, rg5, rg6, rg7, rg8, a_raise, k_raise, a_par3, k_par3, a_try, kt_ok, kt_exc, hdl, sEnd, dropN, inR, dRev, a_fz, k_fzL, k_fzF, k_fzT, a_fzS, k_fzS, a_parN, k_parN, allS, setNE, a_gTN, a_fzd, k_fzd, List.replicate, h1, h2, h3, c, x, q, g, -dIx]
theorem w_rule (w : D) : W__law_word ix_BadRule w = some (.str "rule") := by
  have h1 : sb ix_BadRule 1 = false := by decide
  have h2 : sb ix_BadRule 2 = false := by decide
  have h3 : sb ix_BadRule 3 = true := by decide
  have c : fCntB [.bl false, .bl false, .bl true] [.bl true] = some ([.bl false, .bl false, .bl true], .int 1) := by rfl
  have x : fIxB [.bl false, .bl false, .bl true] [.bl true] = some ([.bl false, .bl false, .bl true], .int 2) := by rfl
  have q : dEq [.int 1, .int 1] = some (.bl true) := d_eq
  have g : dIx [.lst [.str "size", .str "ends", .str "rule"], .int 2] = some (.str "rule") := by rfl
  unfold W__law_word fWord m__law_word
  simp [b_ok, b_stuck, b_exc, a_def, f_ok, f_exc, k_rt, k_nx, a_do, a_set, a_set2, a_drop, a_ret, a_unp, a_seq, k_seq, k_seqr, k_seqb, k_seqc, a_op, k_op, a_c, a_var, a_b, k_b, a_then, k_and1, k_and0, k_or1, k_or0, k_andV1, k_andV0, k_orV1, k_orV0, k_if1, k_if0, k_ifS1, k_ifS0, k_ifT1, k_ifT0, k_notV, k_not, a_yes, a_no, a_next, a_never, a_par, k_par, a_for, k_for, a_i1, k_i1, a_io, k_io, a_call, k_call, a_callP, k_callP, a_chain, k_chain, a_mut, k_mut, a_sto, k_sto, a_lc, k_lc, a_new, a_gN, a_gT, d_lt, d_le, d_gt, d_ge, d_intB, ev, rds, chk, pAny, pTup, pInt, takeA, wbE, permL, padE, outE, gNs, own_int, own_bl, own_str, own_non, own_tup, own_ins, own_frl, own_lst, own_dic, dTup, dLst, dAdd, dSub, dMulS, dDiv, dMod, dNeg, dInt, dAbs, dIsN, dNotN, D.isNon, dLen, dItems, dIx, dTru, D.tru, D.seq, fSetL, fAppend, sizeLine_eq, rg1, rg2, rg3, rg4, rg5, rg6, rg7, rg8, a_raise, k_raise, a_par3, k_par3, a_try, kt_ok, kt_exc, hdl, sEnd, dropN, inR, dRev, a_fz, k_fzL, k_fzF, k_fzT, a_fzS, k_fzS, a_parN, k_parN, allS, setNE, a_gTN, a_fzd, k_fzd, List.replicate, h1, h2, h3, c, x, q, g, -dIx]
theorem t_word (c : Nat) (k : Int) (s : Str) (hk : c ∈ kn) (h : W__law_word c (.int k) = some (.str s)) : FT__law_told (.exc c (.int k)) [none] = .ok (.tup [.str s, .int k], [none]) := by
  have h0 : sb c 0 = true := by unfold sb; simp
  have hk2 : kn.contains c = true := List.contains_iff_mem.mpr hk
  have tp : dTup [.str s, .int k] = some (.tup [.str s, .int k]) := by simp [dTup, own_str, own_int, sizeLine_eq]
  unfold FT__law_told fTold mTold mDeed l__law_told m__law_told
  simp [b_ok, b_stuck, b_exc, a_def, f_ok, f_exc, k_rt, k_nx, a_do, a_set, a_set2, a_drop, a_ret, a_unp, a_seq, k_seq, k_seqr, k_seqb, k_seqc, a_op, k_op, a_c, a_var, a_b, k_b, a_then, k_and1, k_and0, k_or1, k_or0, k_andV1, k_andV0, k_orV1, k_orV0, k_if1, k_if0, k_ifS1, k_ifS0, k_ifT1, k_ifT0, k_notV, k_not, a_yes, a_no, a_next, a_never, a_par, k_par, a_for, k_for, a_i1, k_i1, a_io, k_io, a_call, k_call, a_callP, k_callP, a_chain, k_chain, a_mut, k_mut, a_sto, k_sto, a_lc, k_lc, a_new, a_gN, a_gT, d_lt, d_le, d_gt, d_ge, d_intB, ev, rds, chk, pAny, pTup, pInt, takeA, wbE, permL, padE, outE, gNs, own_int, own_bl, own_str, own_non, own_tup, own_ins, own_frl, own_lst, own_dic, dTup, dLst, dAdd, dSub, dMulS, dDiv, dMod, dNeg, dInt, dAbs, dIsN, dNotN, D.isNon, dLen, dItems, dIx, dTru, D.tru, D.seq, fSetL, fAppend, sizeLine_eq, rg1, rg2, rg3, rg4, rg5, rg6, rg7, rg8, a_raise, k_raise, a_par3, k_par3, a_try, kt_ok, kt_exc, hdl, sEnd, dropN, inR, dRev, a_fz, k_fzL, k_fzF, k_fzT, a_fzS, k_fzS, a_parN, k_parN, allS, setNE, a_gTN, a_fzd, k_fzd, hk, hk2, h0, h, mWord, tp, -dTup]
theorem lam0_exc {FT : DO → FV} {mb : ME} {ρ ρ2 τ : TV.Env} {c : Nat} {w z : D} (h4 : mb ρ = .exc c w ρ2) (h6 : FT (.exc c w) [none] = .ok (z, τ)) (h7 : z.own = false) : mLam [] FT mb ρ = .ok (z, ρ2) := lam_exc (ps := []) (ds := []) (ρ1 := ρ) rfl rfl rfl h4 h6 h7
end K54
namespace K54
open PySem TV
def fac : Nat → Int
  | 0 => 1
  | k + 1 => fac k * ((k : Nat) + 1 : Int)
theorem fac_bd : ∀ k ∈ List.range 61, 0 ≤ fac k ∧ fac k < 2 ^ 300 := by decide +kernel
theorem e_prod (n : Nat) (hn : n ≤ 60) : F__law_product [some (.int (n : Nat))] = .ok (.int (fac n), [some (.int (n : Nat))]) := by
  obtain ⟨ρ', e1, q2, rfl⟩ := for_inv (tg := gN 2) (b := b__law_product_1) (I := fun k ρ => ∃ q2 : Option D, ρ = [some (.int (n : Nat)), some (.int (fac k)), q2]) (dRng 0 n) 0 [some (.int (n : Nat)), some (.int 1), none] (fun k d ρ hd hI => by
    obtain ⟨q2, rfl⟩ := hI
    obtain ⟨hk, rfl⟩ := dRng_get hd
    rw [Nat.zero_add]
    have bd := fac_bd k (List.mem_range.mpr (by omega))
    have ad : dAdd [.int (k : Nat), .int 1] = some (.int ((k : Nat) + 1 : Int)) := rfl
    have h61 : (61 : Int) < 2 ^ 60 := by decide +kernel
    have mu := mulT (P := 2 ^ 300) (Q := 2 ^ 60) (i := fac k) (j := ((k : Nat) + 1 : Int)) 300 60 bd.1 bd.2 (by omega) (by omega) rfl rfl (by decide) (by decide) (by decide)
    refine ⟨_, _, rfl, ?_, some (.int (k : Nat)), rfl⟩
    show b__law_product_1 [some (.int (n : Nat)), some (.int (fac k)), some (.int ((k : Nat) : Int))] = _
    have ef : fac (k + 1) = fac k * ((k : Nat) + 1 : Int) := rfl
    rw [ef]
    clear ef bd
    generalize fac k * ((k : Nat) + 1 : Int) = G at *
    generalize ((k : Nat) + 1 : Int) = K1 at *
    generalize ((k : Nat) : Int) = K at *
    generalize fac k = F at *
    generalize ((n : Nat) : Int) = N at *
    unfold b__law_product_1
    have all := And.intro ad mu
    clear ad mu
    revert all
    refine gen1 dAdd ?_; intro d1
    refine gen1 dMulW ?_; intro d2
    rintro ⟨ad, mu⟩
    simp [b_ok, b_stuck, b_exc, a_def, f_ok, f_exc, k_rt, k_nx, a_do, a_set, a_set2, a_drop, a_ret, a_unp, a_seq, k_seq, k_seqr, k_seqb, k_seqc, a_op, k_op, a_c, a_var, a_b, k_b, a_then, k_and1, k_and0, k_or1, k_or0, k_andV1, k_andV0, k_orV1, k_orV0, k_if1, k_if0, k_ifS1, k_ifS0, k_ifT1, k_ifT0, k_notV, k_not, a_yes, a_no, a_next, a_never, a_par, k_par, a_for, k_for, a_i1, k_i1, a_io, k_io, a_call, k_call, a_callP, k_callP, a_chain, k_chain, a_mut, k_mut, a_sto, k_sto, a_lc, k_lc, a_new, a_gN, a_gT, d_lt, d_le, d_gt, d_ge, d_intB, ev, rds, chk, pAny, pTup, pInt, takeA, wbE, permL, padE, outE, gNs, own_int, own_bl, own_str, own_non, own_tup, own_ins, own_frl, own_lst, own_dic, dTup, dLst, dAdd, dSub, dMulS, dDiv, dMod, dNeg, dInt, dAbs, dIsN, dNotN, D.isNon, dLen, dItems, dIx, dTru, D.tru, D.seq, fSetL, fAppend, sizeLine_eq, rg1, rg2, rg3, rg4, rg5, rg6, rg7, rg8, a_raise, k_raise, a_par3, k_par3, a_try, kt_ok, kt_exc, hdl, sEnd, dropN, inR, dRev, a_fz, k_fzL, k_fzF, k_fzT, a_fzS, k_fzS, a_parN, k_parN, allS, setNE, a_gTN, a_fzd, k_fzd, ad, mu]) ⟨none, rfl⟩
  have lr : (dRng 0 n).length = n := by simp [dRng]
  rw [lr, Nat.zero_add] at e1
  have er := range_1 n (by omega)
  clear lr
  unfold F__law_product m__law_product
  generalize fac n = G at *
  generalize dRng 0 n = RG at *
  generalize ((n : Nat) : Int) = N at *
  have all := And.intro e1 er
  clear e1 er
  revert all
  refine gen1 b__law_product_1 ?_; intro q1
  refine gen1 dR1 ?_; intro d1
  rintro ⟨e1, er⟩
  simp [b_ok, b_stuck, b_exc, a_def, f_ok, f_exc, k_rt, k_nx, a_do, a_set, a_set2, a_drop, a_ret, a_unp, a_seq, k_seq, k_seqr, k_seqb, k_seqc, a_op, k_op, a_c, a_var, a_b, k_b, a_then, k_and1, k_and0, k_or1, k_or0, k_andV1, k_andV0, k_orV1, k_orV0, k_if1, k_if0, k_ifS1, k_ifS0, k_ifT1, k_ifT0, k_notV, k_not, a_yes, a_no, a_next, a_never, a_par, k_par, a_for, k_for, a_i1, k_i1, a_io, k_io, a_call, k_call, a_callP, k_callP, a_chain, k_chain, a_mut, k_mut, a_sto, k_sto, a_lc, k_lc, a_new, a_gN, a_gT, d_lt, d_le, d_gt, d_ge, d_intB, ev, rds, chk, pAny, pTup, pInt, takeA, wbE, permL, padE, outE, gNs, own_int, own_bl, own_str, own_non, own_tup, own_ins, own_frl, own_lst, own_dic, dTup, dLst, dAdd, dSub, dMulS, dDiv, dMod, dNeg, dInt, dAbs, dIsN, dNotN, D.isNon, dLen, dItems, dIx, dTru, D.tru, D.seq, fSetL, fAppend, sizeLine_eq, rg1, rg2, rg3, rg4, rg5, rg6, rg7, rg8, a_raise, k_raise, a_par3, k_par3, a_try, kt_ok, kt_exc, hdl, sEnd, dropN, inR, dRev, a_fz, k_fzL, k_fzF, k_fzT, a_fzS, k_fzS, a_parN, k_parN, allS, setNE, a_gTN, a_fzd, k_fzd, ↓e1, er]
theorem e_lens (a b : Int) (h : Src a b) : ∃ (a' b' : Int) (l : List Int), Src a' b' ∧ okR (some l) ∧ l.length ≤ 39 ∧ F__law_lengths [some (src a b)] = .ok (.tup (l.map .int), [some (src a' b')]) := by
  obtain ⟨ρ', acc', e1, a', b', l, hs, pw, bd, ll, rfl, rfl⟩ := lc_inv (vs := [1]) (i := 1) (t := t__law_lengths_1) (u := u__law_lengths_2) (I := fun k ρ acc => ∃ (a b : Int) (l : List Int), Src a b ∧ l.Pairwise (· < ·) ∧ (∀ n ∈ l, 2 ≤ n ∧ n < 2 + (k : Int)) ∧ l.length ≤ k ∧ acc = l.map .int ∧ ρ = [some (src a b), none]) (dRng 2 39) 0 [some (src a b), none] [] ⟨a, b, [], h, .nil, by simp, by simp, rfl, rfl⟩ (by simp [dRng, sizeLine_eq]) (fun j d ρ acc hd hI => by
    obtain ⟨a1, b1, l, s1, pw, bd, ll, rfl, rfl⟩ := hI
    obtain ⟨hj, rfl⟩ := dRng_get hd
    obtain ⟨a2, b2, t, s2, t1, t2, e2⟩ := e_take a1 b1 3 s1 (by decide) (by decide)
    have qt : dEq [.int t, .int 0] = some (.bl (decide (t = 0))) := d_eq
    have tt : t__law_lengths_1 [some (src a1 b1), some (.int ((2 + j : Nat) : Int))] = .ok (decide (t = 0), [some (src a2 b2), some (.int ((2 + j : Nat) : Int))]) := by
      generalize ((2 + j : Nat) : Int) = J at *
      generalize decide (t = 0) = B at *
      unfold t__law_lengths_1
      have all := And.intro e2 qt
      clear e2 qt
      revert all
      refine gen1 F__law_take ?_; intro f1
      refine gen1 dEq ?_; intro d1
      rintro ⟨e2, qt⟩
      simp [b_ok, b_stuck, b_exc, a_def, f_ok, f_exc, k_rt, k_nx, a_do, a_set, a_set2, a_drop, a_ret, a_unp, a_seq, k_seq, k_seqr, k_seqb, k_seqc, a_op, k_op, a_c, a_var, a_b, k_b, a_then, k_and1, k_and0, k_or1, k_or0, k_andV1, k_andV0, k_orV1, k_orV0, k_if1, k_if0, k_ifS1, k_ifS0, k_ifT1, k_ifT0, k_notV, k_not, a_yes, a_no, a_next, a_never, a_par, k_par, a_for, k_for, a_i1, k_i1, a_io, k_io, a_call, k_call, a_callP, k_callP, a_chain, k_chain, a_mut, k_mut, a_sto, k_sto, a_lc, k_lc, a_new, a_gN, a_gT, d_lt, d_le, d_gt, d_ge, d_intB, ev, rds, chk, pAny, pTup, pInt, takeA, wbE, permL, padE, outE, gNs, own_int, own_bl, own_str, own_non, own_tup, own_ins, own_frl, own_lst, own_dic, dTup, dLst, dAdd, dSub, dMulS, dDiv, dMod, dNeg, dInt, dAbs, dIsN, dNotN, D.isNon, dLen, dItems, dIx, dTru, D.tru, D.seq, fSetL, fAppend, sizeLine_eq, rg1, rg2, rg3, rg4, rg5, rg6, rg7, rg8, a_raise, k_raise, a_par3, k_par3, a_try, kt_ok, kt_exc, hdl, sEnd, dropN, inR, dRev, a_fz, k_fzL, k_fzF, k_fzT, a_fzS, k_fzS, a_parN, k_parN, allS, setNE, a_gTN, a_fzd, k_fzd, e2, qt]
    by_cases c : t = 0
    · rw [decide_eq_true c] at tt
      refine .inl ⟨_, [some (src a2 b2), some (.int ((2 + j : Nat) : Int))], .int ((2 + j : Nat) : Int), tt, by simp [u__law_lengths_2, b_ok, b_stuck, b_exc, a_def, f_ok, f_exc, k_rt, k_nx, a_do, a_set, a_set2, a_drop, a_ret, a_unp, a_seq, k_seq, k_seqr, k_seqb, k_seqc, a_op, k_op, a_c, a_var, a_b, k_b, a_then, k_and1, k_and0, k_or1, k_or0, k_andV1, k_andV0, k_orV1, k_orV0, k_if1, k_if0, k_ifS1, k_ifS0, k_ifT1, k_ifT0, k_notV, k_not, a_yes, a_no, a_next, a_never, a_par, k_par, a_for, k_for, a_i1, k_i1, a_io, k_io, a_call, k_call, a_callP, k_callP, a_chain, k_chain, a_mut, k_mut, a_sto, k_sto, a_lc, k_lc, a_new, a_gN, a_gT, d_lt, d_le, d_gt, d_ge, d_intB, ev, rds, chk, pAny, pTup, pInt, takeA, wbE, permL, padE, outE, gNs, own_int, own_bl, own_str, own_non, own_tup, own_ins, own_frl, own_lst, own_dic, dTup, dLst, dAdd, dSub, dMulS, dDiv, dMod, dNeg, dInt, dAbs, dIsN, dNotN, D.isNon, dLen, dItems, dIx, dTru, D.tru, D.seq, fSetL, fAppend, sizeLine_eq, rg1, rg2, rg3, rg4, rg5, rg6, rg7, rg8, a_raise, k_raise, a_par3, k_par3, a_try, kt_ok, kt_exc, hdl, sEnd, dropN, inR, dRev, a_fz, k_fzL, k_fzF, k_fzT, a_fzS, k_fzS, a_parN, k_parN, allS, setNE, a_gTN, a_fzd, k_fzd], rfl, a2, b2, l ++ [((2 + j : Nat) : Int)], s2, ?_, fun n hn => ?_, by rw [List.length_append]; simp; omega, by simp, rfl⟩
      · rw [List.pairwise_append]
        exact ⟨pw, by simp, fun y hy z hz => by cases List.mem_singleton.mp hz; have := bd y hy; omega⟩
      · rcases List.mem_append.mp hn with z | z
        · have := bd n z; omega
        · cases List.mem_singleton.mp z; omega
    · rw [decide_eq_false c] at tt
      exact .inr ⟨_, tt, a2, b2, l, s2, pw, fun n hn => by have := bd n hn; omega, by omega, rfl, rfl⟩)
  have dl : (dRng 2 39).length = 39 := by simp [dRng]
  rw [dl] at bd ll
  refine ⟨a', b', l, hs, fun l' e => by cases e; exact ⟨pw, fun n hn => by have := bd n hn; omega⟩, by omega, ?_⟩
  have to : dTupOf [.lst (l.map .int)] = some (.tup (l.map .int)) := rfl
  have er : dR2 [.int 2, .int 41] = some (dRng 2 39) := range_2 2 41 (by decide) (by decide)
  clear pw bd dl ll hs
  unfold F__law_lengths m__law_lengths
  generalize l.map D.int = L at *
  generalize dRng 2 39 = RG at *
  have all := And.intro e1 <| And.intro to er
  clear e1 to er
  revert all
  refine gen1 t__law_lengths_1 ?_; intro q1
  refine gen1 u__law_lengths_2 ?_; intro q2
  refine gen1 dTupOf ?_; intro d1
  refine gen1 dR2 ?_; intro d2
  rintro ⟨e1, to, er⟩
  simp [b_ok, b_stuck, b_exc, a_def, f_ok, f_exc, k_rt, k_nx, a_do, a_set, a_set2, a_drop, a_ret, a_unp, a_seq, k_seq, k_seqr, k_seqb, k_seqc, a_op, k_op, a_c, a_var, a_b, k_b, a_then, k_and1, k_and0, k_or1, k_or0, k_andV1, k_andV0, k_orV1, k_orV0, k_if1, k_if0, k_ifS1, k_ifS0, k_ifT1, k_ifT0, k_notV, k_not, a_yes, a_no, a_next, a_never, a_par, k_par, a_for, k_for, a_i1, k_i1, a_io, k_io, a_call, k_call, a_callP, k_callP, a_chain, k_chain, a_mut, k_mut, a_sto, k_sto, a_lc, k_lc, a_new, a_gN, a_gT, d_lt, d_le, d_gt, d_ge, d_intB, ev, rds, chk, pAny, pTup, pInt, takeA, wbE, permL, padE, outE, gNs, own_int, own_bl, own_str, own_non, own_tup, own_ins, own_frl, own_lst, own_dic, dTup, dLst, dAdd, dSub, dMulS, dDiv, dMod, dNeg, dInt, dAbs, dIsN, dNotN, D.isNon, dLen, dItems, dIx, dTru, D.tru, D.seq, fSetL, fAppend, sizeLine_eq, rg1, rg2, rg3, rg4, rg5, rg6, rg7, rg8, a_raise, k_raise, a_par3, k_par3, a_try, kt_ok, kt_exc, hdl, sEnd, dropN, inR, dRev, a_fz, k_fzL, k_fzF, k_fzT, a_fzS, k_fzS, a_parN, k_parN, allS, setNE, a_gTN, a_fzd, k_fzd, wipeE, e1, to, er, own_tup]
theorem inn_cong {b b' : Nat → Bool} (h : ∀ m, 2 ≤ m → b m = b' m) : ∀ k, innL b k = innL b' k
  | 0 => rfl
  | k + 1 => by
    unfold innL
    rw [inn_cong h k, h (k + 2) (by omega)]
theorem cc_cong {b b' : Nat → Bool} (h : ∀ m, 2 ≤ m → b m = b' m) (n : Nat) (e : Int) : ccZ b n e = ccZ b' n e := by
  unfold ccZ
  rw [inn_cong h]
theorem cc_mono {b b' : Nat → Bool} (h : ∀ m, b m = true → b' m = true) (n : Nat) (e : Int) : ccZ b' n e ≤ ccZ b n e := by
  have i1 := inn_mono h (n - 1)
  have e1 := end_mono i1 n
  unfold ccZ
  split
  · exact (i1 n).2
  · split
    · exact (e1 n).2
    · exact sum_mono fun j hj => tri_mono' (cb_pos (by omega)) (e1 j) (e1 (n - 1 - j))
where tri_mono' {a b c b' c' : Int} (ha : 0 ≤ a) (hb : 0 ≤ b ∧ b ≤ b') (hc : 0 ≤ c ∧ c ≤ c') : tri a b c ≤ tri a b' c' := tri_mono ha hb.1 hc.1 hb.2 hc.2
abbrev yesB : Nat → Bool := fun _ => true
abbrev whB : Nat → Bool := fun k => decide (2 ≤ k) && decide (k ≤ 40)
theorem end_cong {I J : List Int} : ∀ {k : Nat}, (∀ i < k, I.getD i 0 = J.getD i 0) → endL I k = endL J k
  | 0, _ => rfl
  | k + 1, h => by
    have ih := end_cong (k := k) fun i hi => h i (by omega)
    unfold endL
    rw [ih]
    have e : (List.range (k + 1)).map (fun j => tri (cb k j) ((endL J k).getD j 0) (I.getD (k - j) 0)) = (List.range (k + 1)).map fun j => tri (cb k j) ((endL J k).getD j 0) (J.getD (k - j) 0) :=
      List.map_congr_left fun j hj => by rw [h (k - j) (by omega)]
    rw [e]
def ccW (I E : List Int) (n : Nat) (e : Int) : Int :=
  if e = 3 then I.getD n 0 else if e = 1 ∨ e = 2 then E.getD n 0
  else ((List.range n).map fun j => tri (cb (n - 1) j) (E.getD j 0) (E.getD (n - 1 - j) 0)).sum
theorem cc_tab (b : Nat → Bool) {n : Nat} (h1 : 1 ≤ n) (h2 : n ≤ 60) (e : Int) : ccZ b n e = ccW (innL b 59) (endL (innL b 59) 60) n e := by
  have eI : ∀ i, i < n + 1 → (innL b (n - 1)).getD i 0 = (innL b 59).getD i 0 := fun i hi => (inn_pre b (k := n - 1) (m := 59) (by omega) (by omega)).symm
  have eE : endL (innL b (n - 1)) n = endL (innL b 59) n := end_cong fun i hi => eI i (by omega)
  have e2 : ∀ i, i < n + 1 → (endL (innL b 59) n).getD i 0 = (endL (innL b 59) 60).getD i 0 := fun i hi => (end_pre (innL b 59) (k := n) (m := 60) hi h2).symm
  unfold ccZ ccW
  rw [eE, eI n (by omega), e2 n (by omega)]
  have e3 : (List.range n).map (fun j => tri (cb (n - 1) j) ((endL (innL b 59) n).getD j 0) ((endL (innL b 59) n).getD (n - 1 - j) 0)) = (List.range n).map fun j => tri (cb (n - 1) j) ((endL (innL b 59) 60).getD j 0) ((endL (innL b 59) 60).getD (n - 1 - j) 0) :=
    List.map_congr_left fun j hj => by
      have := List.mem_range.mp hj
      rw [e2 j (by omega), e2 (n - 1 - j) (by omega)]
  rw [e3]
def nI : List Int := innL noB 59
def nE : List Int := endL nI 60
def yI : List Int := innL yesB 59
def yE : List Int := endL yI 60
def wI : List Int := innL whB 59
def wE : List Int := endL wI 60
def capZ (e : Int) : Int := if e = 0 then 42 else if e = 3 then 40 else 41
theorem chk54a : ((List.range 60).all fun m => [(0 : Int), 1, 2, 3].all fun e => decide (ccW nI nE (m + 1) e = fac (m + 1))) = true := by decide +kernel
theorem chk54b : ((List.range 60).all fun m => [(0 : Int), 1, 2, 3].all fun e => decide (ccW yI yE (m + 1) e ≤ ccW wI wE (m + 1) e) && (decide (ccW yI yE (m + 1) e < ccW wI wE (m + 1) e) == decide (capZ e < (m + 1 : Nat)))) = true := by decide +kernel
theorem ends4 {e : Int} (h : 0 ≤ e ∧ e ≤ 3) : e ∈ [(0 : Int), 1, 2, 3] := by
  have : e = 0 ∨ e = 1 ∨ e = 2 ∨ e = 3 := by omega
  rcases this with rfl | rfl | rfl | rfl <;> decide
theorem cc_no {n : Nat} (h1 : 1 ≤ n) (h2 : n ≤ 60) {e : Int} (he : 0 ≤ e ∧ e ≤ 3) : ccZ noB n e = fac n := by
  rw [cc_tab noB h1 h2 e]
  have := List.all_eq_true.mp chk54a (n - 1) (List.mem_range.mpr (by omega))
  have := of_decide_eq_true (List.all_eq_true.mp this e (ends4 he))
  rw [Nat.sub_add_cancel h1] at this
  exact this
theorem cc_wh {n : Nat} (h1 : 1 ≤ n) (h2 : n ≤ 60) {e : Int} (he : 0 ≤ e ∧ e ≤ 3) : ccZ yesB n e ≤ ccZ whB n e ∧ decide (ccZ yesB n e < ccZ whB n e) = decide (capZ e < (n : Nat)) := by
  rw [cc_tab yesB h1 h2 e, cc_tab whB h1 h2 e]
  have := List.all_eq_true.mp chk54b (n - 1) (List.mem_range.mpr (by omega))
  have := List.all_eq_true.mp this e (ends4 he)
  rw [Bool.and_eq_true, decide_eq_true_eq, beq_iff_eq, Nat.sub_add_cancel h1] at this
  exact this
end K54
namespace K54
open PySem TV
abbrev RR_1 : MS := mParN [1, 2, 3] [mOp [.tmp (mC (.int 1)) pAny, .tmp (mCall [.var 0 pAny, .tmp (mC (.int 60)) pAny] F__law_take) pAny] dAdd, mCall [.var 0 pAny, .tmp (mC (.int 4)) pAny] F__law_take, mOp [.tmp (mCall [.var 0 pAny] F__law_lengths) pAny] dLstOf]
abbrev RR_2 : MS := mIfS (mB (mOp [.tmp (mCall [.var 0 pAny, .tmp (mC (.int 2)) pAny] F__law_take) pAny, .tmp (mC (.int 0)) pAny] dEq)) (mSet 1 (mCall [.var 0 pAny, .tmp (mOp [.tmp (mC (.int 0)) pAny, .tmp (mC (.int 61)) pAny, .tmp (mOp [.tmp (mOp [.tmp (mC (.int 1)) pAny] dNeg) pAny, .tmp (mCall [.var 0 pAny, .tmp (mOp [.tmp (mC (.int 10)) pAny, .tmp (mC (.int 9)) pAny] dPow) pAny] F__law_take) pAny] dSub) pAny, .tmp (mOp [.tmp (mC (.int 61)) pAny, .tmp (mCall [.var 0 pAny, .tmp (mOp [.tmp (mC (.int 10)) pAny, .tmp (mC (.int 9)) pAny] dPow) pAny] F__law_take) pAny] dAdd) pAny] dLst) pAny] F__law_one)) (mNext)
abbrev RR_3 : MS := mIfS (mB (mOp [.tmp (mCall [.var 0 pAny, .tmp (mC (.int 2)) pAny] F__law_take) pAny, .tmp (mC (.int 0)) pAny] dEq)) (mSet 2 (mCall [.var 0 pAny, .tmp (mOp [.tmp (mOp [.tmp (mC (.int 1)) pAny] dNeg) pAny, .tmp (mC (.int 4)) pAny, .tmp (mOp [.tmp (mC (.int 10)) pAny, .tmp (mC (.int 9)) pAny] dPow) pAny] dLst) pAny] F__law_one)) (mNext)
abbrev RR_4 : MS := mFor (mIO [.tmp (mCall [.var 0 pAny, .tmp (mC (.int 3)) pAny] F__law_take) pAny] dR1) (gN 4) b__law_refusals_right_1
abbrev RR_5 : MS := mDo (mLc [7] (mIO [.tmp (mOp [.var 3 pAny] dLen) pAny] dR1) (gN 7) (t__law_refusals_right_2) (u__law_refusals_right_3)) (kSet 5)
abbrev RR_6 : MS := mSet 6 (mIf (mB (mOp [.var 5 pAny, .tmp (mOp [] dLst) pAny] dNe)) (mOp [.tmp (mC (.str "rule")) pAny, .tmp (mOp [.var 5 pAny, .tmp (mC (.int 0)) pAny] dIx) pAny] dTup) (mOp [] dTup))
abbrev RR_7 : MS := mSet 6 (mIf (mNot (mB (mChain (fun i j => decide (i ≤ j)) (fun i j => decide (i ≤ j)) (.tmp (mC (.int 1)) pAny) (.var 1 pAny) (.tmp (mC (.int 60)) pAny)))) (mOp [.tmp (mC (.str "size")) pAny, .var 1 pAny] dTup) (mIf (mNot (mB (mChain (fun i j => decide (i ≤ j)) (fun i j => decide (i ≤ j)) (.tmp (mC (.int 0)) pAny) (.var 2 pAny) (.tmp (mC (.int 3)) pAny)))) (mOp [.tmp (mC (.str "ends")) pAny, .var 2 pAny] dTup) (mVar 6)))
abbrev RR_8 : MS := mDo (mOrV (mOp [.var 6 pAny, .tmp (mOp [] dTup) pAny] dEq) (mOp [.tmp (mOp [.tmp (mLam [] FT__law_told w__law_refusals_right_4) pAny] dShow) pAny, .tmp (mOp [.var 6 pAny] dShow) pAny] dEqT)) kRet
theorem RR_all : m__law_refusals_right = mSeq RR_1 (mSeq RR_2 (mSeq RR_3 (mSeq RR_4 (mSeq RR_5 (mSeq RR_6 (mSeq RR_7 (RR_8))))))) := rfl
abbrev LL_1 : MS := mSet 1 (mCall [.var 0 pAny, .tmp (mC (.int 0)) pAny] F__law_pool)
abbrev LL_2 : MS := mPar 2 3 (mCall [.var 1 pAny, .tmp (mOp [.tmp (mC (.int 60)) pAny, .tmp (mOp [.tmp (mC (.int 1)) pAny, .tmp (mCall [.var 1 pAny, .tmp (mC (.int 60)) pAny] F__law_take) pAny] dAdd) pAny, .tmp (mOp [.tmp (mC (.int 1)) pAny, .tmp (mCall [.var 1 pAny, .tmp (mC (.int 8)) pAny] F__law_take) pAny] dAdd) pAny] dLst) pAny] F__law_one) (mCall [.var 1 pAny, .tmp (mC (.int 4)) pAny] F__law_take)
abbrev LL_3 : MS := mIfS (mB (mOp [.tmp (mOp [.tmp (mCallP ([.var 2 pAny] ++ [.tmp (mOp [] dTup) pAny, .var 3 pAny]) [] [0, 2, 1] F_class_count) pAny] dShow) pAny, .tmp (mOp [.tmp (mCall [.var 2 pAny] F__law_product) pAny] dShow) pAny] dNeT)) (mDo (mC (.bl false)) kRet) (mNext)
abbrev LL_4 : MS := mPar 2 4 (mCall [.var 1 pAny, .tmp (mOp [.tmp (mOp [.tmp (mC (.int 1)) pAny, .tmp (mCall [.var 1 pAny, .tmp (mC (.int 40)) pAny] F__law_take) pAny] dAdd) pAny, .tmp (mC (.int 40)) pAny, .tmp (mC (.int 41)) pAny, .tmp (mOp [.tmp (mC (.int 41)) pAny, .tmp (mCall [.var 1 pAny, .tmp (mC (.int 20)) pAny] F__law_take) pAny] dAdd) pAny] dLst) pAny] F__law_one) (mOp [.tmp (mC (.int 2)) pAny, .tmp (mC (.int 41)) pAny] dTupR2)
abbrev LL_5 : MS := mPar 5 6 (mCallP ([.var 2 pAny] ++ [.var 3 pAny, .var 4 pAny]) [] [0, 1, 2] F_class_count) (mCallP ([.var 2 pAny] ++ [.var 3 pAny]) [.non] [0, 1, 2] F_class_count)
abbrev LL_6 : MS := mIfS (mOr (mB (mOp [.var 5 pAny, .var 6 pAny] dLt)) (mB (mOp [.tmp (mOp [.var 5 pAny, .var 6 pAny] dGt) pAny, .tmp (mOp [.var 2 pAny, .tmp (mOp [.tmp (mOp [.tmp (mC (.int 42)) pAny, .tmp (mC (.int 41)) pAny, .tmp (mC (.int 41)) pAny, .tmp (mC (.int 40)) pAny] dLst) pAny, .var 3 pAny] dIx) pAny] dGt) pAny] dNe))) (mDo (mC (.bl false)) kRet) (mNext)
abbrev LL_7 : MS := mDo (mOp [.tmp (mCall [.var 1 pAny] F__law_lengths) pAny, .tmp (mOp [.tmp (mC (.int 2)) pAny, .tmp (mCall [.var 1 pAny, .tmp (mC (.int 39)) pAny] F__law_take) pAny] dAdd) pAny] dTup) (kUnp [7, 8])
abbrev LL_8 : MS := mSet 9 (mOp [.tmp (mOp [.tmp (mOp [.tmp (mLc [10] (mI1 (mVar 7) D.seq) (gN 10) (t_law_1) (u_law_2)) pAny, .tmp (mOp [.var 8 pAny] dLst) pAny] dAdd) pAny] dSort) pAny] dTupOf)
abbrev LL_9 : MS := mIfS (mB (mOp [.tmp (mCallP ([.var 2 pAny] ++ [.var 3 pAny, .var 9 pAny]) [] [0, 1, 2] F_class_count) pAny, .tmp (mCallP ([.var 2 pAny] ++ [.var 3 pAny, .var 7 pAny]) [] [0, 1, 2] F_class_count) pAny] dGt)) (mDo (mC (.bl false)) kRet) (mNext)
abbrev LL_10 : MS := mDo (mAndV (mCall [.var 1 pAny] F__law_refusals_right) (mCall [.var 1 pAny] F__law_refusals_right)) kRet
theorem LL_all : m_law = mSeq LL_1 (mSeq LL_2 (mSeq LL_3 (mSeq LL_4 (mSeq LL_5 (mSeq LL_6 (mSeq LL_7 (mSeq LL_8 (mSeq LL_9 (LL_10))))))))) := rfl
theorem log_sm {k : Int} (h1 : -1000000000000000000000000000000000000000000 ≤ k) (h2 : k ≤ 1000000000000000000000000000000000000000000) : k.natAbs.log2 < 1920 := by
  by_cases z : k.natAbs = 0
  · rw [z]; decide
  · refine (Nat.log2_lt z).mpr (Nat.lt_of_lt_of_le (m := 2 ^ 200) ?_ (Nat.pow_le_pow_right (by decide) (by decide)))
    have : (1000000000000000000000000000000000000000000 : Nat) < 2 ^ 200 := by decide +kernel
    omega
theorem sh_tup (w : Str) (k : Int) (hw : w.cps.toList.all (fun c => decide (c < 16 ^ 8)) = true) (hl : w.length ≤ 100) (hk : k.natAbs.log2 < 1920) : dShow [.tup [.str w, .int k]] = some (.str (shD (.tup [.str w, .int k]))) :=
  dShow_eq (n := 10 * w.length + 2 + 2 + (2000 + 2 + 0) + 10) (by simp only [wt, wts, hw, hk, if_true]; rfl) (by omega) (by simp [dpt, dpts])
theorem sh_int (k : Int) (hk : k.natAbs.log2 < 1920) : dShow [.int k] = some (.str (shD (.int k))) :=
  dShow_eq (n := 2000) (by simp only [wt, hk, if_true]) (by decide) (by simp [dpt])
theorem ix_lst1 (l : List Int) (i : Nat) (h : i < l.length) : dIx [.lst (l.map .int), .int (i : Nat)] = some (.int (l.getD i 0)) := by
  show L2.atI (l.map D.int) ((i : Nat) : Int) = _
  rw [atI_nat, List.getElem?_map, List.getD_eq_getElem?_getD, List.getElem?_eq_getElem h]
  rfl
theorem tup2 (w : Str) (k : Int) : dTup [.str w, .int k] = some (.tup [.str w, .int k]) := by simp [dTup, own_str, own_int, sizeLine_eq]
abbrev en54 (a b n e : Int) (L : List Int) (o4 o5 o6 : Option D) : TV.Env := [some (src a b), some (.int n), some (.int e), some (.lst (L.map .int)), o4, o5, o6, none]
theorem rr1 (a b : Int) (h : Src a b) : ∃ (a' b' n e : Int) (L : List Int), Src a' b' ∧ (1 ≤ n ∧ n ≤ 60) ∧ (0 ≤ e ∧ e ≤ 3) ∧ L.length ≤ 39 ∧ RR_1 [some (src a b), none, none, none, none, none, none, none] = .ok (.nx, en54 a' b' n e L none none none) := by
  obtain ⟨a1, b1, t, s1, p1, p2, e1⟩ := e_take a b 60 h (by decide) (by decide)
  obtain ⟨a2, b2, e, s2, p3, p4, e2⟩ := e_take a1 b1 4 s1 (by decide) (by decide)
  obtain ⟨a3, b3, L, s3, hL, ll, e3⟩ := e_lens a2 b2 s2
  refine ⟨a3, b3, 1 + t, e, L, s3, ⟨by omega, by omega⟩, ⟨by omega, by omega⟩, ll, ?_⟩
  have ad : dAdd [.int 1, .int t] = some (.int (1 + t)) := rfl
  have lo : dLstOf [.tup (L.map .int)] = some (.lst (L.map .int)) := rfl
  clear hL ll
  unfold en54
  generalize 1 + t = u at *
  generalize L.map D.int = L0 at *
  unfold RR_1
  have all := And.intro e1 <| And.intro e2 <| And.intro e3 <| And.intro ad lo
  clear e1 e2 e3 ad lo
  revert all
  refine gen1 F__law_take ?_; intro f1
  refine gen1 F__law_lengths ?_; intro f2
  refine gen1 dAdd ?_; intro d1
  refine gen1 dLstOf ?_; intro d2
  rintro ⟨e1, e2, e3, ad, lo⟩
  simp [b_ok, b_stuck, b_exc, a_def, f_ok, f_exc, k_rt, k_nx, a_do, a_set, a_set2, a_drop, a_ret, a_unp, a_seq, k_seq, k_seqr, k_seqb, k_seqc, a_op, k_op, a_c, a_var, a_b, k_b, a_then, k_and1, k_and0, k_or1, k_or0, k_andV1, k_andV0, k_orV1, k_orV0, k_if1, k_if0, k_ifS1, k_ifS0, k_ifT1, k_ifT0, k_notV, k_not, a_yes, a_no, a_next, a_never, a_par, k_par, a_for, k_for, a_i1, k_i1, a_io, k_io, a_call, k_call, a_callP, k_callP, a_chain, k_chain, a_mut, k_mut, a_sto, k_sto, a_lc, k_lc, a_new, a_gN, a_gT, d_lt, d_le, d_gt, d_ge, d_intB, ev, rds, chk, pAny, pTup, pInt, takeA, wbE, permL, padE, outE, gNs, own_int, own_bl, own_str, own_non, own_tup, own_ins, own_frl, own_lst, own_dic, dTup, dLst, dAdd, dSub, dMulS, dDiv, dMod, dNeg, dInt, dAbs, dIsN, dNotN, D.isNon, dLen, dItems, dIx, dTru, D.tru, D.seq, fSetL, fAppend, sizeLine_eq, rg1, rg2, rg3, rg4, rg5, rg6, rg7, rg8, a_raise, k_raise, a_par3, k_par3, a_try, kt_ok, kt_exc, hdl, sEnd, dropN, inR, dRev, a_fz, k_fzL, k_fzF, k_fzT, a_fzS, k_fzS, a_parN, k_parN, allS, setNE, a_gTN, a_fzd, k_fzd, a_parN, k_parN, allS, setNE, e1, e2, e3, ad, lo]
theorem rr2 (a b n e : Int) (h : Src a b) (hn : 1 ≤ n ∧ n ≤ 60) (L : List Int) : ∃ (a' b' n' : Int), Src a' b' ∧ (-2000000000 ≤ n' ∧ n' ≤ 2000000000) ∧ RR_2 (en54 a b n e L none none none) = .ok (.nx, en54 a' b' n' e L none none none) := by
  obtain ⟨a1, b1, t, s1, p1, p2, e1⟩ := e_take a b 2 h (by decide) (by decide)
  have q : dEq [.int t, .int 0] = some (.bl (decide (t = 0))) := d_eq
  by_cases c : t = 0
  · rw [decide_eq_true c] at q
    obtain ⟨a2, b2, u, s2, p3, p4, e2⟩ := e_take a1 b1 1000000000 s1 (by decide) (by decide)
    obtain ⟨a3, b3, v, s3, p5, p6, e3⟩ := e_take a2 b2 1000000000 s2 (by decide) (by decide)
    obtain ⟨a4, b4, n', s4, hm, e4⟩ := e_one a3 b3 [0, 61, -1 - u, 61 + v] s3 (by simp) (by simp)
    refine ⟨a4, b4, n', s4, ?_, ?_⟩
    · simp only [List.mem_cons, List.not_mem_nil, or_false] at hm
      omega
    · replace e4 : F__law_one [some (src a3 b3), some (.lst [.int 0, .int 61, .int (-1 - u), .int (61 + v)])] = .ok (.int n', [some (src a4 b4), some (.lst [.int 0, .int 61, .int (-1 - u), .int (61 + v)])]) := e4
      have ad : dAdd [.int 61, .int v] = some (.int (61 + v)) := rfl
      have ng : dNeg [.int 1] = some (.int (-1)) := rfl
      have sb1 : dSub [.int (-1), .int u] = some (.int (-1 - u)) := rfl
      have gl : dLst [.int 0, .int 61, .int (-1 - u), .int (61 + v)] = some (.lst [.int 0, .int 61, .int (-1 - u), .int (61 + v)]) := by simp [dLst, sizeLine_eq, own_int]
      clear hm
      unfold en54
      generalize -1 - u = U at *
      generalize 61 + v = V at *
      generalize L.map D.int = L0 at *
      unfold RR_2
      have all := And.intro e1 <| And.intro e2 <| And.intro e3 <| And.intro e4 <| And.intro q <| And.intro ad <| And.intro ng <| And.intro sb1 gl
      clear e1 e2 e3 e4 q ad ng sb1 gl
      revert all
      refine gen1 F__law_take ?_; intro f1
      refine gen1 F__law_one ?_; intro f2
      refine gen1 dAdd ?_; intro d1
      refine gen1 dNeg ?_; intro d2
      refine gen1 dSub ?_; intro d3
      refine gen1 dLst ?_; intro d4
      refine gen1 dEq ?_; intro d5
      rintro ⟨e1, e2, e3, e4, q, ad, ng, sb1, gl⟩
      simp [b_ok, b_stuck, b_exc, a_def, f_ok, f_exc, k_rt, k_nx, a_do, a_set, a_set2, a_drop, a_ret, a_unp, a_seq, k_seq, k_seqr, k_seqb, k_seqc, a_op, k_op, a_c, a_var, a_b, k_b, a_then, k_and1, k_and0, k_or1, k_or0, k_andV1, k_andV0, k_orV1, k_orV0, k_if1, k_if0, k_ifS1, k_ifS0, k_ifT1, k_ifT0, k_notV, k_not, a_yes, a_no, a_next, a_never, a_par, k_par, a_for, k_for, a_i1, k_i1, a_io, k_io, a_call, k_call, a_callP, k_callP, a_chain, k_chain, a_mut, k_mut, a_sto, k_sto, a_lc, k_lc, a_new, a_gN, a_gT, d_lt, d_le, d_gt, d_ge, d_intB, ev, rds, chk, pAny, pTup, pInt, takeA, wbE, permL, padE, outE, gNs, own_int, own_bl, own_str, own_non, own_tup, own_ins, own_frl, own_lst, own_dic, dTup, dLst, dAdd, dSub, dMulS, dDiv, dMod, dNeg, dInt, dAbs, dIsN, dNotN, D.isNon, dLen, dItems, dIx, dTru, D.tru, D.seq, fSetL, fAppend, sizeLine_eq, rg1, rg2, rg3, rg4, rg5, rg6, rg7, rg8, a_raise, k_raise, a_par3, k_par3, a_try, kt_ok, kt_exc, hdl, sEnd, dropN, inR, dRev, a_fz, k_fzL, k_fzF, k_fzT, a_fzS, k_fzS, a_parN, k_parN, allS, setNE, a_gTN, a_fzd, k_fzd, ↓q9, e1, e2, e3, e4, q, ad, ng, sb1, gl]
  · rw [decide_eq_false c] at q
    refine ⟨a1, b1, n, s1, ⟨by omega, by omega⟩, ?_⟩
    unfold en54
    generalize L.map D.int = L0 at *
    unfold RR_2
    have all := And.intro e1 q
    clear e1 q
    revert all
    refine gen1 F__law_take ?_; intro f1
    refine gen1 dEq ?_; intro d5
    rintro ⟨e1, q⟩
    simp [b_ok, b_stuck, b_exc, a_def, f_ok, f_exc, k_rt, k_nx, a_do, a_set, a_set2, a_drop, a_ret, a_unp, a_seq, k_seq, k_seqr, k_seqb, k_seqc, a_op, k_op, a_c, a_var, a_b, k_b, a_then, k_and1, k_and0, k_or1, k_or0, k_andV1, k_andV0, k_orV1, k_orV0, k_if1, k_if0, k_ifS1, k_ifS0, k_ifT1, k_ifT0, k_notV, k_not, a_yes, a_no, a_next, a_never, a_par, k_par, a_for, k_for, a_i1, k_i1, a_io, k_io, a_call, k_call, a_callP, k_callP, a_chain, k_chain, a_mut, k_mut, a_sto, k_sto, a_lc, k_lc, a_new, a_gN, a_gT, d_lt, d_le, d_gt, d_ge, d_intB, ev, rds, chk, pAny, pTup, pInt, takeA, wbE, permL, padE, outE, gNs, own_int, own_bl, own_str, own_non, own_tup, own_ins, own_frl, own_lst, own_dic, dTup, dLst, dAdd, dSub, dMulS, dDiv, dMod, dNeg, dInt, dAbs, dIsN, dNotN, D.isNon, dLen, dItems, dIx, dTru, D.tru, D.seq, fSetL, fAppend, sizeLine_eq, rg1, rg2, rg3, rg4, rg5, rg6, rg7, rg8, a_raise, k_raise, a_par3, k_par3, a_try, kt_ok, kt_exc, hdl, sEnd, dropN, inR, dRev, a_fz, k_fzL, k_fzF, k_fzT, a_fzS, k_fzS, a_parN, k_parN, allS, setNE, a_gTN, a_fzd, k_fzd, e1, q]
theorem rr3 (a b n e : Int) (h : Src a b) (he : 0 ≤ e ∧ e ≤ 3) (L : List Int) : ∃ (a' b' e' : Int), Src a' b' ∧ (-1 ≤ e' ∧ e' ≤ 1000000000) ∧ RR_3 (en54 a b n e L none none none) = .ok (.nx, en54 a' b' n e' L none none none) := by
  obtain ⟨a1, b1, t, s1, p1, p2, e1⟩ := e_take a b 2 h (by decide) (by decide)
  have q : dEq [.int t, .int 0] = some (.bl (decide (t = 0))) := d_eq
  by_cases c : t = 0
  · rw [decide_eq_true c] at q
    obtain ⟨a4, b4, e', s4, hm, e4⟩ := e_one a1 b1 [-1, 4, 1000000000] s1 (by simp) (by simp)
    refine ⟨a4, b4, e', s4, ?_, ?_⟩
    · simp only [List.mem_cons, List.not_mem_nil, or_false] at hm
      omega
    · replace e4 : F__law_one [some (src a1 b1), some (.lst [.int (-1), .int 4, .int 1000000000])] = .ok (.int e', [some (src a4 b4), some (.lst [.int (-1), .int 4, .int 1000000000])]) := e4
      have ng : dNeg [.int 1] = some (.int (-1)) := rfl
      have gl : dLst [.int (-1), .int 4, .int 1000000000] = some (.lst [.int (-1), .int 4, .int 1000000000]) := by simp [dLst, sizeLine_eq, own_int]
      clear hm
      unfold en54
      generalize L.map D.int = L0 at *
      unfold RR_3
      have all := And.intro e1 <| And.intro e4 <| And.intro q <| And.intro ng gl
      clear e1 e4 q ng gl
      revert all
      refine gen1 F__law_take ?_; intro f1
      refine gen1 F__law_one ?_; intro f2
      refine gen1 dNeg ?_; intro d2
      refine gen1 dLst ?_; intro d4
      refine gen1 dEq ?_; intro d5
      rintro ⟨e1, e4, q, ng, gl⟩
      simp [b_ok, b_stuck, b_exc, a_def, f_ok, f_exc, k_rt, k_nx, a_do, a_set, a_set2, a_drop, a_ret, a_unp, a_seq, k_seq, k_seqr, k_seqb, k_seqc, a_op, k_op, a_c, a_var, a_b, k_b, a_then, k_and1, k_and0, k_or1, k_or0, k_andV1, k_andV0, k_orV1, k_orV0, k_if1, k_if0, k_ifS1, k_ifS0, k_ifT1, k_ifT0, k_notV, k_not, a_yes, a_no, a_next, a_never, a_par, k_par, a_for, k_for, a_i1, k_i1, a_io, k_io, a_call, k_call, a_callP, k_callP, a_chain, k_chain, a_mut, k_mut, a_sto, k_sto, a_lc, k_lc, a_new, a_gN, a_gT, d_lt, d_le, d_gt, d_ge, d_intB, ev, rds, chk, pAny, pTup, pInt, takeA, wbE, permL, padE, outE, gNs, own_int, own_bl, own_str, own_non, own_tup, own_ins, own_frl, own_lst, own_dic, dTup, dLst, dAdd, dSub, dMulS, dDiv, dMod, dNeg, dInt, dAbs, dIsN, dNotN, D.isNon, dLen, dItems, dIx, dTru, D.tru, D.seq, fSetL, fAppend, sizeLine_eq, rg1, rg2, rg3, rg4, rg5, rg6, rg7, rg8, a_raise, k_raise, a_par3, k_par3, a_try, kt_ok, kt_exc, hdl, sEnd, dropN, inR, dRev, a_fz, k_fzL, k_fzF, k_fzT, a_fzS, k_fzS, a_parN, k_parN, allS, setNE, a_gTN, a_fzd, k_fzd, ↓q9, e1, e4, q, ng, gl]
  · rw [decide_eq_false c] at q
    refine ⟨a1, b1, e, s1, ⟨by omega, by omega⟩, ?_⟩
    unfold en54
    generalize L.map D.int = L0 at *
    unfold RR_3
    have all := And.intro e1 q
    clear e1 q
    revert all
    refine gen1 F__law_take ?_; intro f1
    refine gen1 dEq ?_; intro d5
    rintro ⟨e1, q⟩
    simp [b_ok, b_stuck, b_exc, a_def, f_ok, f_exc, k_rt, k_nx, a_do, a_set, a_set2, a_drop, a_ret, a_unp, a_seq, k_seq, k_seqr, k_seqb, k_seqc, a_op, k_op, a_c, a_var, a_b, k_b, a_then, k_and1, k_and0, k_or1, k_or0, k_andV1, k_andV0, k_orV1, k_orV0, k_if1, k_if0, k_ifS1, k_ifS0, k_ifT1, k_ifT0, k_notV, k_not, a_yes, a_no, a_next, a_never, a_par, k_par, a_for, k_for, a_i1, k_i1, a_io, k_io, a_call, k_call, a_callP, k_callP, a_chain, k_chain, a_mut, k_mut, a_sto, k_sto, a_lc, k_lc, a_new, a_gN, a_gT, d_lt, d_le, d_gt, d_ge, d_intB, ev, rds, chk, pAny, pTup, pInt, takeA, wbE, permL, padE, outE, gNs, own_int, own_bl, own_str, own_non, own_tup, own_ins, own_frl, own_lst, own_dic, dTup, dLst, dAdd, dSub, dMulS, dDiv, dMod, dNeg, dInt, dAbs, dIsN, dNotN, D.isNon, dLen, dItems, dIx, dTru, D.tru, D.seq, fSetL, fAppend, sizeLine_eq, rg1, rg2, rg3, rg4, rg5, rg6, rg7, rg8, a_raise, k_raise, a_par3, k_par3, a_try, kt_ok, kt_exc, hdl, sEnd, dropN, inR, dRev, a_fz, k_fzL, k_fzF, k_fzT, a_fzS, k_fzS, a_parN, k_parN, allS, setNE, a_gTN, a_fzd, k_fzd, e1, q]
theorem rr4 (a b n e : Int) (h : Src a b) (L : List Int) (hL : L.length ≤ 39) : ∃ (a' b' : Int) (L' : List Int) (q4 : Option D), Src a' b' ∧ L'.length ≤ 50 ∧ RR_4 (en54 a b n e L none none none) = .ok (.nx, en54 a' b' n e L' q4 none none) := by
  obtain ⟨a1, b1, t, s1, p1, p2, e1⟩ := e_take a b 3 h (by decide) (by decide)
  obtain ⟨m, rfl⟩ : ∃ m : Nat, t = (m : Nat) := ⟨t.toNat, by omega⟩
  obtain ⟨ρ', e2, a', b', L', q4, s', hl', rfl⟩ := for_inv (tg := gN 4) (b := b__law_refusals_right_1) (I := fun k ρ => ∃ (a b : Int) (L : List Int) (q4 : Option D), Src a b ∧ L.length ≤ 39 + k ∧ ρ = en54 a b n e L q4 none none) (dRng 0 m) 0 (en54 a1 b1 n e L none none none) (fun k d ρ hd hI => by
    obtain ⟨a, b, L, q4, h, hL, rfl⟩ := hI
    obtain ⟨hk, rfl⟩ := dRng_get hd
    rw [Nat.zero_add] at hL ⊢
    obtain ⟨a1, b1, i, s1, p1, p2, e1⟩ := e_take a b (L.length + 1) h (by omega) (by omega)
    obtain ⟨a2, b2, x, s2, hm, e2⟩ := e_one a1 b1 [1, 41, 0, -3, 40, 2, 1000000000] s1 (by simp) (by simp)
    replace e2 : F__law_one [some (src a1 b1), some (.lst [.int 1, .int 41, .int 0, .int (-3), .int 40, .int 2, .int 1000000000])] = .ok (.int x, [some (src a2 b2), some (.lst [.int 1, .int 41, .int 0, .int (-3), .int 40, .int 2, .int 1000000000])]) := e2
    have ll := len_lst L
    have a1' : dAdd [.int ((L.length : Nat) : Int), .int 1] = some (.int ((L.length : Int) + 1)) := rfl
    have ng : dNeg [.int 3] = some (.int (-3)) := rfl
    have gl : dLst [.int 1, .int 41, .int 0, .int (-3), .int 40, .int 2, .int 1000000000] = some (.lst [.int 1, .int 41, .int 0, .int (-3), .int 40, .int 2, .int 1000000000]) := by simp [dLst, sizeLine_eq, own_int]
    have fi : fInsert (L.map .int) [.int i, .int x] = some ((L.take i.toNat ++ [x] ++ L.drop i.toNat).map D.int, .non) := by
      show (if (D.int x).own = false ∧ (L.map D.int).length < sizeLine ∧ 0 ≤ i ∧ i < 2 ^ 63 then some ((L.map D.int).take i.toNat ++ [D.int x] ++ (L.map D.int).drop i.toNat, D.non) else none) = _
      rw [if_pos ⟨rfl, by rw [List.length_map, sizeLine_eq]; omega, p1, by omega⟩, List.map_append, List.map_append, List.map_take, List.map_drop]
      rfl
    refine ⟨[some (src a b), some (.int n), some (.int e), some (.lst (L.map .int)), some (.int ((k : Nat) : Int)), none, none, none], en54 a2 b2 n e (L.take i.toNat ++ [x] ++ L.drop i.toNat) (some (.int ((k : Nat) : Int))) none none, rfl, ?_, a2, b2, L.take i.toNat ++ [x] ++ L.drop i.toNat, some (.int ((k : Nat) : Int)), s2, by rw [List.length_append, List.length_append, List.length_take, List.length_drop]; simp; omega, rfl⟩
    clear hm hL p1 p2
    unfold en54
    generalize (L.take i.toNat ++ [x] ++ L.drop i.toNat).map D.int = L1 at *
    generalize ((L.length : Int) + 1) = N1 at *
    generalize ((L.length : Nat) : Int) = N0 at *
    generalize L.map D.int = L0 at *
    generalize ((k : Nat) : Int) = K at *
    unfold b__law_refusals_right_1
    have all := And.intro e1 <| And.intro e2 <| And.intro ll <| And.intro a1' <| And.intro ng <| And.intro gl fi
    clear e1 e2 ll a1' ng gl fi
    revert all
    refine gen1 F__law_one ?_; intro f1
    refine gen1 F__law_take ?_; intro f2
    refine gen1 dAdd ?_; intro d1
    refine gen1 dNeg ?_; intro d2
    refine gen1 dLst ?_; intro d3
    refine gen1 dLen ?_; intro d5
    refine gen1 fInsert ?_; intro d6
    rintro ⟨e1, e2, ll, a1', ng, gl, fi⟩
    simp [b_ok, b_stuck, b_exc, a_def, f_ok, f_exc, k_rt, k_nx, a_do, a_set, a_set2, a_drop, a_ret, a_unp, a_seq, k_seq, k_seqr, k_seqb, k_seqc, a_op, k_op, a_c, a_var, a_b, k_b, a_then, k_and1, k_and0, k_or1, k_or0, k_andV1, k_andV0, k_orV1, k_orV0, k_if1, k_if0, k_ifS1, k_ifS0, k_ifT1, k_ifT0, k_notV, k_not, a_yes, a_no, a_next, a_never, a_par, k_par, a_for, k_for, a_i1, k_i1, a_io, k_io, a_call, k_call, a_callP, k_callP, a_chain, k_chain, a_mut, k_mut, a_sto, k_sto, a_lc, k_lc, a_new, a_gN, a_gT, d_lt, d_le, d_gt, d_ge, d_intB, ev, rds, chk, pAny, pTup, pInt, takeA, wbE, permL, padE, outE, gNs, own_int, own_bl, own_str, own_non, own_tup, own_ins, own_frl, own_lst, own_dic, dTup, dLst, dAdd, dSub, dMulS, dDiv, dMod, dNeg, dInt, dAbs, dIsN, dNotN, D.isNon, dLen, dItems, dIx, dTru, D.tru, D.seq, fSetL, fAppend, sizeLine_eq, rg1, rg2, rg3, rg4, rg5, rg6, rg7, rg8, a_raise, k_raise, a_par3, k_par3, a_try, kt_ok, kt_exc, hdl, sEnd, dropN, inR, dRev, a_fz, k_fzL, k_fzF, k_fzT, a_fzS, k_fzS, a_parN, k_parN, allS, setNE, a_gTN, a_fzd, k_fzd, ↓q9, e1, e2, ll, a1', ng, gl, fi, -dLst, -dNeg, -dLen]) ⟨a1, b1, L, none, s1, hL, rfl⟩
  have lr : (dRng 0 m).length = m := by simp [dRng]
  rw [lr] at hl'
  refine ⟨a', b', L', q4, s', by omega, ?_⟩
  have er := range_1 m (by omega)
  clear hl' lr hL p1 p2
  unfold en54 at *
  unfold RR_4
  generalize dRng 0 m = RG at *
  generalize ((m : Nat) : Int) = N at *
  generalize L'.map D.int = L1 at *
  generalize L.map D.int = L0 at *
  have all := And.intro e1 <| And.intro e2 er
  clear e1 e2 er
  revert all
  refine gen1 b__law_refusals_right_1 ?_; intro q1
  refine gen1 F__law_take ?_; intro f2
  refine gen1 dR1 ?_; intro d2
  rintro ⟨e1, e2, er⟩
  simp [b_ok, b_stuck, b_exc, a_def, f_ok, f_exc, k_rt, k_nx, a_do, a_set, a_set2, a_drop, a_ret, a_unp, a_seq, k_seq, k_seqr, k_seqb, k_seqc, a_op, k_op, a_c, a_var, a_b, k_b, a_then, k_and1, k_and0, k_or1, k_or0, k_andV1, k_andV0, k_orV1, k_orV0, k_if1, k_if0, k_ifS1, k_ifS0, k_ifT1, k_ifT0, k_notV, k_not, a_yes, a_no, a_next, a_never, a_par, k_par, a_for, k_for, a_i1, k_i1, a_io, k_io, a_call, k_call, a_callP, k_callP, a_chain, k_chain, a_mut, k_mut, a_sto, k_sto, a_lc, k_lc, a_new, a_gN, a_gT, d_lt, d_le, d_gt, d_ge, d_intB, ev, rds, chk, pAny, pTup, pInt, takeA, wbE, permL, padE, outE, gNs, own_int, own_bl, own_str, own_non, own_tup, own_ins, own_frl, own_lst, own_dic, dTup, dLst, dAdd, dSub, dMulS, dDiv, dMod, dNeg, dInt, dAbs, dIsN, dNotN, D.isNon, dLen, dItems, dIx, dTru, D.tru, D.seq, fSetL, fAppend, sizeLine_eq, rg1, rg2, rg3, rg4, rg5, rg6, rg7, rg8, a_raise, k_raise, a_par3, k_par3, a_try, kt_ok, kt_exc, hdl, sEnd, dropN, inR, dRev, a_fz, k_fzL, k_fzF, k_fzT, a_fzS, k_fzS, a_parN, k_parN, allS, setNE, a_gTN, a_fzd, k_fzd, e1, ↓e2, er]
end K54
namespace K54
open PySem TV
theorem rr5 (a b n e : Int) (L : List Int) (hL : L.length ≤ 50) (q4 : Option D) : RR_5 (en54 a b n e L q4 none none) = .ok (.nx, en54 a b n e L q4 (some (.lst ((badsR L).map fun i : Nat => D.int i))) none) := by
  have lc := lc_map (vs := [7]) (i := 7) (t := t__law_refusals_right_2) (u := u__law_refusals_right_3) (f := fun j : Nat => D.int (0 + j)) (g := fun j : Nat => D.int j) (b := badR L) (ρ := en54 a b n e L q4 none none) (List.range L.length) [] (fun i hi => by
    have hi := List.mem_range.mp hi
    have e0 : ((0 : Int) + (i : Nat)) = ((i : Nat) : Int) := by omega
    rw [e0]
    refine ⟨?_, fun _ => ⟨by simp [b_ok, b_stuck, b_exc, a_def, f_ok, f_exc, k_rt, k_nx, a_do, a_set, a_set2, a_drop, a_ret, a_unp, a_seq, k_seq, k_seqr, k_seqb, k_seqc, a_op, k_op, a_c, a_var, a_b, k_b, a_then, k_and1, k_and0, k_or1, k_or0, k_andV1, k_andV0, k_orV1, k_orV0, k_if1, k_if0, k_ifS1, k_ifS0, k_ifT1, k_ifT0, k_notV, k_not, a_yes, a_no, a_next, a_never, a_par, k_par, a_for, k_for, a_i1, k_i1, a_io, k_io, a_call, k_call, a_callP, k_callP, a_chain, k_chain, a_mut, k_mut, a_sto, k_sto, a_lc, k_lc, a_new, a_gN, a_gT, d_lt, d_le, d_gt, d_ge, d_intB, ev, rds, chk, pAny, pTup, pInt, takeA, wbE, permL, padE, outE, gNs, own_int, own_bl, own_str, own_non, own_tup, own_ins, own_frl, own_lst, own_dic, dTup, dLst, dAdd, dSub, dMulS, dDiv, dMod, dNeg, dInt, dAbs, dIsN, dNotN, D.isNon, dLen, dItems, dIx, dTru, D.tru, D.seq, fSetL, fAppend, sizeLine_eq, rg1, rg2, rg3, rg4, rg5, rg6, rg7, rg8, a_raise, k_raise, a_par3, k_par3, a_try, kt_ok, kt_exc, hdl, sEnd, dropN, inR, dRev, a_fz, k_fzL, k_fzF, k_fzT, a_fzS, k_fzS, a_parN, k_parN, allS, setNE, a_gTN, a_fzd, k_fzd, u__law_refusals_right_3], rfl⟩, by simp [wipeE]⟩
    show t__law_refusals_right_2 [some (src a b), some (.int n), some (.int e), some (.lst (L.map .int)), q4, none, none, some (.int ((i : Nat) : Int))] = .ok (badR L i, [some (src a b), some (.int n), some (.int e), some (.lst (L.map .int)), q4, none, none, some (.int ((i : Nat) : Int))])
    have x1 := ix_lst1 L i hi
    unfold badR
    by_cases c1 : 2 ≤ L.getD i 0
    · by_cases c2 : L.getD i 0 ≤ 40
      · by_cases c3 : 0 < i
        · have x2 := ix_lst1 L (i - 1) (by omega)
          have sb1 : dSub [.int ((i : Nat) : Int), .int 1] = some (.int ((i - 1 : Nat) : Int)) := congrArg (fun z : Int => some (D.int z)) (by omega)
          have g1 : dGt [.int ((i : Nat) : Int), .int 0] = some (.bl true) := by
            rw [d_gt, decide_eq_true (by omega)]
          have g2 : dGe [.int (L.getD (i - 1) 0), .int (L.getD i 0)] = some (.bl (decide (L.getD i 0 ≤ L.getD (i - 1) 0))) := d_ge
          have e1 : decide (0 < i) = true := decide_eq_true c3
          rw [e1]
          clear e0 hi c3
          generalize ((i - 1 : Nat) : Int) = I1 at *
          generalize ((i : Nat) : Int) = I0 at *
          generalize L.getD (i - 1) 0 = y1 at *
          generalize L.getD i 0 = y0 at *
          generalize L.map D.int = L0 at *
          unfold t__law_refusals_right_2
          have all := And.intro x1 <| And.intro x2 <| And.intro sb1 <| And.intro g1 g2
          clear x1 x2 sb1 g1 g2
          revert all
          refine gen1 dIx ?_; intro d1
          refine gen1 dSub ?_; intro d2
          refine gen1 dGt ?_; intro d3
          refine gen1 dGe ?_; intro d4
          rintro ⟨x1, x2, sb1, g1, g2⟩
          simp [b_ok, b_stuck, b_exc, a_def, f_ok, f_exc, k_rt, k_nx, a_do, a_set, a_set2, a_drop, a_ret, a_unp, a_seq, k_seq, k_seqr, k_seqb, k_seqc, a_op, k_op, a_c, a_var, a_b, k_b, a_then, k_and1, k_and0, k_or1, k_or0, k_andV1, k_andV0, k_orV1, k_orV0, k_if1, k_if0, k_ifS1, k_ifS0, k_ifT1, k_ifT0, k_notV, k_not, a_yes, a_no, a_next, a_never, a_par, k_par, a_for, k_for, a_i1, k_i1, a_io, k_io, a_call, k_call, a_callP, k_callP, a_chain, k_chain, a_mut, k_mut, a_sto, k_sto, a_lc, k_lc, a_new, a_gN, a_gT, d_lt, d_le, d_gt, d_ge, d_intB, ev, rds, chk, pAny, pTup, pInt, takeA, wbE, permL, padE, outE, gNs, own_int, own_bl, own_str, own_non, own_tup, own_ins, own_frl, own_lst, own_dic, dTup, dLst, dAdd, dSub, dMulS, dDiv, dMod, dNeg, dInt, dAbs, dIsN, dNotN, D.isNon, dLen, dItems, dIx, dTru, D.tru, D.seq, fSetL, fAppend, sizeLine_eq, rg1, rg2, rg3, rg4, rg5, rg6, rg7, rg8, a_raise, k_raise, a_par3, k_par3, a_try, kt_ok, kt_exc, hdl, sEnd, dropN, inR, dRev, a_fz, k_fzL, k_fzF, k_fzT, a_fzS, k_fzS, a_parN, k_parN, allS, setNE, a_gTN, a_fzd, k_fzd, mOr, x1, x2, sb1, g1, g2, c1, c2, -dIx]
        · obtain rfl : i = 0 := by omega
          have g1 : dGt [.int ((0 : Nat) : Int), .int 0] = some (.bl false) := by
            rw [d_gt, decide_eq_false (by omega)]
          clear e0 hi
          have e1 : decide (0 < 0) = false := rfl
          rw [e1]
          generalize ((0 : Nat) : Int) = I0 at *
          generalize L.getD 0 0 = y0 at *
          generalize L.map D.int = L0 at *
          unfold t__law_refusals_right_2
          have all := And.intro x1 g1
          clear x1 g1
          revert all
          refine gen1 dIx ?_; intro d1
          refine gen1 dGt ?_; intro d3
          rintro ⟨x1, g1⟩
          simp [b_ok, b_stuck, b_exc, a_def, f_ok, f_exc, k_rt, k_nx, a_do, a_set, a_set2, a_drop, a_ret, a_unp, a_seq, k_seq, k_seqr, k_seqb, k_seqc, a_op, k_op, a_c, a_var, a_b, k_b, a_then, k_and1, k_and0, k_or1, k_or0, k_andV1, k_andV0, k_orV1, k_orV0, k_if1, k_if0, k_ifS1, k_ifS0, k_ifT1, k_ifT0, k_notV, k_not, a_yes, a_no, a_next, a_never, a_par, k_par, a_for, k_for, a_i1, k_i1, a_io, k_io, a_call, k_call, a_callP, k_callP, a_chain, k_chain, a_mut, k_mut, a_sto, k_sto, a_lc, k_lc, a_new, a_gN, a_gT, d_lt, d_le, d_gt, d_ge, d_intB, ev, rds, chk, pAny, pTup, pInt, takeA, wbE, permL, padE, outE, gNs, own_int, own_bl, own_str, own_non, own_tup, own_ins, own_frl, own_lst, own_dic, dTup, dLst, dAdd, dSub, dMulS, dDiv, dMod, dNeg, dInt, dAbs, dIsN, dNotN, D.isNon, dLen, dItems, dIx, dTru, D.tru, D.seq, fSetL, fAppend, sizeLine_eq, rg1, rg2, rg3, rg4, rg5, rg6, rg7, rg8, a_raise, k_raise, a_par3, k_par3, a_try, kt_ok, kt_exc, hdl, sEnd, dropN, inR, dRev, a_fz, k_fzL, k_fzF, k_fzT, a_fzS, k_fzS, a_parN, k_parN, allS, setNE, a_gTN, a_fzd, k_fzd, mOr, x1, g1, c1, c2, -dIx]
      · clear e0 hi
        generalize ((i : Nat) : Int) = I0 at *
        generalize L.getD i 0 = y0 at *
        generalize L.map D.int = L0 at *
        unfold t__law_refusals_right_2
        revert x1
        refine gen1 dIx ?_; intro d1 x1
        simp [b_ok, b_stuck, b_exc, a_def, f_ok, f_exc, k_rt, k_nx, a_do, a_set, a_set2, a_drop, a_ret, a_unp, a_seq, k_seq, k_seqr, k_seqb, k_seqc, a_op, k_op, a_c, a_var, a_b, k_b, a_then, k_and1, k_and0, k_or1, k_or0, k_andV1, k_andV0, k_orV1, k_orV0, k_if1, k_if0, k_ifS1, k_ifS0, k_ifT1, k_ifT0, k_notV, k_not, a_yes, a_no, a_next, a_never, a_par, k_par, a_for, k_for, a_i1, k_i1, a_io, k_io, a_call, k_call, a_callP, k_callP, a_chain, k_chain, a_mut, k_mut, a_sto, k_sto, a_lc, k_lc, a_new, a_gN, a_gT, d_lt, d_le, d_gt, d_ge, d_intB, ev, rds, chk, pAny, pTup, pInt, takeA, wbE, permL, padE, outE, gNs, own_int, own_bl, own_str, own_non, own_tup, own_ins, own_frl, own_lst, own_dic, dTup, dLst, dAdd, dSub, dMulS, dDiv, dMod, dNeg, dInt, dAbs, dIsN, dNotN, D.isNon, dLen, dItems, dIx, dTru, D.tru, D.seq, fSetL, fAppend, sizeLine_eq, rg1, rg2, rg3, rg4, rg5, rg6, rg7, rg8, a_raise, k_raise, a_par3, k_par3, a_try, kt_ok, kt_exc, hdl, sEnd, dropN, inR, dRev, a_fz, k_fzL, k_fzF, k_fzT, a_fzS, k_fzS, a_parN, k_parN, allS, setNE, a_gTN, a_fzd, k_fzd, mOr, x1, c1, c2, -dIx]
    · clear e0 hi
      generalize ((i : Nat) : Int) = I0 at *
      generalize L.getD i 0 = y0 at *
      generalize L.map D.int = L0 at *
      unfold t__law_refusals_right_2
      revert x1
      refine gen1 dIx ?_; intro d1 x1
      simp [b_ok, b_stuck, b_exc, a_def, f_ok, f_exc, k_rt, k_nx, a_do, a_set, a_set2, a_drop, a_ret, a_unp, a_seq, k_seq, k_seqr, k_seqb, k_seqc, a_op, k_op, a_c, a_var, a_b, k_b, a_then, k_and1, k_and0, k_or1, k_or0, k_andV1, k_andV0, k_orV1, k_orV0, k_if1, k_if0, k_ifS1, k_ifS0, k_ifT1, k_ifT0, k_notV, k_not, a_yes, a_no, a_next, a_never, a_par, k_par, a_for, k_for, a_i1, k_i1, a_io, k_io, a_call, k_call, a_callP, k_callP, a_chain, k_chain, a_mut, k_mut, a_sto, k_sto, a_lc, k_lc, a_new, a_gN, a_gT, d_lt, d_le, d_gt, d_ge, d_intB, ev, rds, chk, pAny, pTup, pInt, takeA, wbE, permL, padE, outE, gNs, own_int, own_bl, own_str, own_non, own_tup, own_ins, own_frl, own_lst, own_dic, dTup, dLst, dAdd, dSub, dMulS, dDiv, dMod, dNeg, dInt, dAbs, dIsN, dNotN, D.isNon, dLen, dItems, dIx, dTru, D.tru, D.seq, fSetL, fAppend, sizeLine_eq, rg1, rg2, rg3, rg4, rg5, rg6, rg7, rg8, a_raise, k_raise, a_par3, k_par3, a_try, kt_ok, kt_exc, hdl, sEnd, dropN, inR, dRev, a_fz, k_fzL, k_fzF, k_fzT, a_fzS, k_fzS, a_parN, k_parN, allS, setNE, a_gTN, a_fzd, k_fzd, mOr, x1, c1, -dIx]) (by rw [sizeLine_eq]; simp; omega)
  rw [List.nil_append] at lc
  have eR : (List.range L.length).map (fun j : Nat => D.int (0 + j)) = dRng 0 L.length := rfl
  have eB : (List.range L.length).filter (badR L) = badsR L := rfl
  rw [eR, eB] at lc
  have ll := len_lst L
  have er := range_1 L.length (by omega)
  clear eR eB
  unfold en54 at *
  unfold RR_5
  generalize (badsR L).map (fun j : Nat => D.int j) = B1 at *
  generalize dRng 0 L.length = RG at *
  generalize ((L.length : Nat) : Int) = N at *
  generalize L.map D.int = L0 at *
  have all := And.intro lc <| And.intro ll er
  clear lc ll er
  revert all
  refine gen1 t__law_refusals_right_2 ?_; intro q1
  refine gen1 u__law_refusals_right_3 ?_; intro q2
  refine gen1 dLen ?_; intro d1
  refine gen1 dR1 ?_; intro d2
  rintro ⟨lc, ll, er⟩
  simp [b_ok, b_stuck, b_exc, a_def, f_ok, f_exc, k_rt, k_nx, a_do, a_set, a_set2, a_drop, a_ret, a_unp, a_seq, k_seq, k_seqr, k_seqb, k_seqc, a_op, k_op, a_c, a_var, a_b, k_b, a_then, k_and1, k_and0, k_or1, k_or0, k_andV1, k_andV0, k_orV1, k_orV0, k_if1, k_if0, k_ifS1, k_ifS0, k_ifT1, k_ifT0, k_notV, k_not, a_yes, a_no, a_next, a_never, a_par, k_par, a_for, k_for, a_i1, k_i1, a_io, k_io, a_call, k_call, a_callP, k_callP, a_chain, k_chain, a_mut, k_mut, a_sto, k_sto, a_lc, k_lc, a_new, a_gN, a_gT, d_lt, d_le, d_gt, d_ge, d_intB, ev, rds, chk, pAny, pTup, pInt, takeA, wbE, permL, padE, outE, gNs, own_int, own_bl, own_str, own_non, own_tup, own_ins, own_frl, own_lst, own_dic, dTup, dLst, dAdd, dSub, dMulS, dDiv, dMod, dNeg, dInt, dAbs, dIsN, dNotN, D.isNon, dLen, dItems, dIx, dTru, D.tru, D.seq, fSetL, fAppend, sizeLine_eq, rg1, rg2, rg3, rg4, rg5, rg6, rg7, rg8, a_raise, k_raise, a_par3, k_par3, a_try, kt_ok, kt_exc, hdl, sEnd, dropN, inR, dRev, a_fz, k_fzL, k_fzF, k_fzT, a_fzS, k_fzS, a_parN, k_parN, allS, setNE, a_gTN, a_fzd, k_fzd, wipeE, lc, ll, er, -dLen]
def dueR (L : List Int) : D := match badsR L with
  | f :: _ => .tup [.str "rule", .int ((f : Nat) : Int)]
  | [] => .tup []
theorem rr6 (a b n e : Int) (L : List Int) (q4 : Option D) : RR_6 (en54 a b n e L q4 (some (.lst ((badsR L).map fun i : Nat => D.int i))) none) = .ok (.nx, en54 a b n e L q4 (some (.lst ((badsR L).map fun i : Nat => D.int i))) (some (dueR L))) := by
  have g0 : dLst [] = some (.lst []) := rfl
  unfold dueR en54
  match hb : badsR L with
  | [] =>
    have n0 : dNe [.lst (([] : List Nat).map fun i : Nat => D.int i), .lst []] = some (.bl false) := ne_nil []
    have t0 : dTup [] = some (.tup []) := rfl
    simp only
    generalize L.map D.int = L0 at *
    generalize (([] : List Nat).map fun i : Nat => D.int i) = B at *
    unfold RR_6
    have all := And.intro n0 <| And.intro g0 t0
    clear n0 g0 t0
    revert all
    refine gen1 dNe ?_; intro d1
    refine gen1 dLst ?_; intro d2
    refine gen1 dTup ?_; intro d3
    rintro ⟨n0, g0, t0⟩
    simp [b_ok, b_stuck, b_exc, a_def, f_ok, f_exc, k_rt, k_nx, a_do, a_set, a_set2, a_drop, a_ret, a_unp, a_seq, k_seq, k_seqr, k_seqb, k_seqc, a_op, k_op, a_c, a_var, a_b, k_b, a_then, k_and1, k_and0, k_or1, k_or0, k_andV1, k_andV0, k_orV1, k_orV0, k_if1, k_if0, k_ifS1, k_ifS0, k_ifT1, k_ifT0, k_notV, k_not, a_yes, a_no, a_next, a_never, a_par, k_par, a_for, k_for, a_i1, k_i1, a_io, k_io, a_call, k_call, a_callP, k_callP, a_chain, k_chain, a_mut, k_mut, a_sto, k_sto, a_lc, k_lc, a_new, a_gN, a_gT, d_lt, d_le, d_gt, d_ge, d_intB, ev, rds, chk, pAny, pTup, pInt, takeA, wbE, permL, padE, outE, gNs, own_int, own_bl, own_str, own_non, own_tup, own_ins, own_frl, own_lst, own_dic, dTup, dLst, dAdd, dSub, dMulS, dDiv, dMod, dNeg, dInt, dAbs, dIsN, dNotN, D.isNon, dLen, dItems, dIx, dTru, D.tru, D.seq, fSetL, fAppend, sizeLine_eq, rg1, rg2, rg3, rg4, rg5, rg6, rg7, rg8, a_raise, k_raise, a_par3, k_par3, a_try, kt_ok, kt_exc, hdl, sEnd, dropN, inR, dRev, a_fz, k_fzL, k_fzF, k_fzT, a_fzS, k_fzS, a_parN, k_parN, allS, setNE, a_gTN, a_fzd, k_fzd, n0, g0, t0, own_tup]
  | f :: fs =>
    have n0 : dNe [.lst ((f :: fs).map fun i : Nat => D.int i), .lst []] = some (.bl true) := by
      have z := ne_nil ((f :: fs).map fun i : Nat => (i : Int))
      rw [List.map_map] at z
      exact z
    have x0 : dIx [.lst ((f :: fs).map fun i : Nat => D.int i), .int 0] = some (.int ((f : Nat) : Int)) := at0
    have t2 := tup2 "rule" ((f : Nat) : Int)
    simp only
    generalize ((f : Nat) : Int) = F at *
    generalize L.map D.int = L0 at *
    generalize ((f :: fs).map fun i : Nat => D.int i) = B at *
    unfold RR_6
    have all := And.intro n0 <| And.intro x0 <| And.intro g0 t2
    clear n0 x0 g0 t2
    revert all
    refine gen1 dNe ?_; intro d1
    refine gen1 dIx ?_; intro d2
    refine gen1 dLst ?_; intro d3
    refine gen1 dTup ?_; intro d4
    rintro ⟨n0, x0, g0, t2⟩
    simp [b_ok, b_stuck, b_exc, a_def, f_ok, f_exc, k_rt, k_nx, a_do, a_set, a_set2, a_drop, a_ret, a_unp, a_seq, k_seq, k_seqr, k_seqb, k_seqc, a_op, k_op, a_c, a_var, a_b, k_b, a_then, k_and1, k_and0, k_or1, k_or0, k_andV1, k_andV0, k_orV1, k_orV0, k_if1, k_if0, k_ifS1, k_ifS0, k_ifT1, k_ifT0, k_notV, k_not, a_yes, a_no, a_next, a_never, a_par, k_par, a_for, k_for, a_i1, k_i1, a_io, k_io, a_call, k_call, a_callP, k_callP, a_chain, k_chain, a_mut, k_mut, a_sto, k_sto, a_lc, k_lc, a_new, a_gN, a_gT, d_lt, d_le, d_gt, d_ge, d_intB, ev, rds, chk, pAny, pTup, pInt, takeA, wbE, permL, padE, outE, gNs, own_int, own_bl, own_str, own_non, own_tup, own_ins, own_frl, own_lst, own_dic, dTup, dLst, dAdd, dSub, dMulS, dDiv, dMod, dNeg, dInt, dAbs, dIsN, dNotN, D.isNon, dLen, dItems, dIx, dTru, D.tru, D.seq, fSetL, fAppend, sizeLine_eq, rg1, rg2, rg3, rg4, rg5, rg6, rg7, rg8, a_raise, k_raise, a_par3, k_par3, a_try, kt_ok, kt_exc, hdl, sEnd, dropN, inR, dRev, a_fz, k_fzL, k_fzF, k_fzT, a_fzS, k_fzS, a_parN, k_parN, allS, setNE, a_gTN, a_fzd, k_fzd, n0, x0, g0, t2, own_tup]
def due54 (n e : Int) (L : List Int) : D := if ¬ (1 ≤ n ∧ n ≤ 60) then .tup [.str "size", .int n] else if ¬ (0 ≤ e ∧ e ≤ 3) then .tup [.str "ends", .int e] else dueR L
theorem dueR_own (L : List Int) : (dueR L).own = false := by
  unfold dueR
  split <;> rfl
theorem rr7 (a b n e : Int) (L : List Int) (q4 o5 : Option D) : RR_7 (en54 a b n e L q4 o5 (some (dueR L))) = .ok (.nx, en54 a b n e L q4 o5 (some (due54 n e L))) := by
  have t1 := tup2 "size" n
  have t2 := tup2 "ends" e
  have oD := dueR_own L
  unfold due54 en54
  generalize dueR L = DR at *
  generalize L.map D.int = L0 at *
  unfold RR_7
  have all := And.intro t1 t2
  clear t1 t2
  revert all
  refine gen1 dTup ?_; intro d1
  rintro ⟨t1, t2⟩
  by_cases c1 : 1 ≤ n
  · by_cases c2 : n ≤ 60
    · by_cases c3 : 0 ≤ e
      · by_cases c4 : e ≤ 3
        · simp [b_ok, b_stuck, b_exc, a_def, f_ok, f_exc, k_rt, k_nx, a_do, a_set, a_set2, a_drop, a_ret, a_unp, a_seq, k_seq, k_seqr, k_seqb, k_seqc, a_op, k_op, a_c, a_var, a_b, k_b, a_then, k_and1, k_and0, k_or1, k_or0, k_andV1, k_andV0, k_orV1, k_orV0, k_if1, k_if0, k_ifS1, k_ifS0, k_ifT1, k_ifT0, k_notV, k_not, a_yes, a_no, a_next, a_never, a_par, k_par, a_for, k_for, a_i1, k_i1, a_io, k_io, a_call, k_call, a_callP, k_callP, a_chain, k_chain, a_mut, k_mut, a_sto, k_sto, a_lc, k_lc, a_new, a_gN, a_gT, d_lt, d_le, d_gt, d_ge, d_intB, ev, rds, chk, pAny, pTup, pInt, takeA, wbE, permL, padE, outE, gNs, own_int, own_bl, own_str, own_non, own_tup, own_ins, own_frl, own_lst, own_dic, dTup, dLst, dAdd, dSub, dMulS, dDiv, dMod, dNeg, dInt, dAbs, dIsN, dNotN, D.isNon, dLen, dItems, dIx, dTru, D.tru, D.seq, fSetL, fAppend, sizeLine_eq, rg1, rg2, rg3, rg4, rg5, rg6, rg7, rg8, a_raise, k_raise, a_par3, k_par3, a_try, kt_ok, kt_exc, hdl, sEnd, dropN, inR, dRev, a_fz, k_fzL, k_fzF, k_fzT, a_fzS, k_fzS, a_parN, k_parN, allS, setNE, a_gTN, a_fzd, k_fzd, c1, c2, c3, c4, oD]
        · simp [b_ok, b_stuck, b_exc, a_def, f_ok, f_exc, k_rt, k_nx, a_do, a_set, a_set2, a_drop, a_ret, a_unp, a_seq, k_seq, k_seqr, k_seqb, k_seqc, a_op, k_op, a_c, a_var, a_b, k_b, a_then, k_and1, k_and0, k_or1, k_or0, k_andV1, k_andV0, k_orV1, k_orV0, k_if1, k_if0, k_ifS1, k_ifS0, k_ifT1, k_ifT0, k_notV, k_not, a_yes, a_no, a_next, a_never, a_par, k_par, a_for, k_for, a_i1, k_i1, a_io, k_io, a_call, k_call, a_callP, k_callP, a_chain, k_chain, a_mut, k_mut, a_sto, k_sto, a_lc, k_lc, a_new, a_gN, a_gT, d_lt, d_le, d_gt, d_ge, d_intB, ev, rds, chk, pAny, pTup, pInt, takeA, wbE, permL, padE, outE, gNs, own_int, own_bl, own_str, own_non, own_tup, own_ins, own_frl, own_lst, own_dic, dTup, dLst, dAdd, dSub, dMulS, dDiv, dMod, dNeg, dInt, dAbs, dIsN, dNotN, D.isNon, dLen, dItems, dIx, dTru, D.tru, D.seq, fSetL, fAppend, sizeLine_eq, rg1, rg2, rg3, rg4, rg5, rg6, rg7, rg8, a_raise, k_raise, a_par3, k_par3, a_try, kt_ok, kt_exc, hdl, sEnd, dropN, inR, dRev, a_fz, k_fzL, k_fzF, k_fzT, a_fzS, k_fzS, a_parN, k_parN, allS, setNE, a_gTN, a_fzd, k_fzd, c1, c2, c3, c4, t2, own_tup]
      · simp [b_ok, b_stuck, b_exc, a_def, f_ok, f_exc, k_rt, k_nx, a_do, a_set, a_set2, a_drop, a_ret, a_unp, a_seq, k_seq, k_seqr, k_seqb, k_seqc, a_op, k_op, a_c, a_var, a_b, k_b, a_then, k_and1, k_and0, k_or1, k_or0, k_andV1, k_andV0, k_orV1, k_orV0, k_if1, k_if0, k_ifS1, k_ifS0, k_ifT1, k_ifT0, k_notV, k_not, a_yes, a_no, a_next, a_never, a_par, k_par, a_for, k_for, a_i1, k_i1, a_io, k_io, a_call, k_call, a_callP, k_callP, a_chain, k_chain, a_mut, k_mut, a_sto, k_sto, a_lc, k_lc, a_new, a_gN, a_gT, d_lt, d_le, d_gt, d_ge, d_intB, ev, rds, chk, pAny, pTup, pInt, takeA, wbE, permL, padE, outE, gNs, own_int, own_bl, own_str, own_non, own_tup, own_ins, own_frl, own_lst, own_dic, dTup, dLst, dAdd, dSub, dMulS, dDiv, dMod, dNeg, dInt, dAbs, dIsN, dNotN, D.isNon, dLen, dItems, dIx, dTru, D.tru, D.seq, fSetL, fAppend, sizeLine_eq, rg1, rg2, rg3, rg4, rg5, rg6, rg7, rg8, a_raise, k_raise, a_par3, k_par3, a_try, kt_ok, kt_exc, hdl, sEnd, dropN, inR, dRev, a_fz, k_fzL, k_fzF, k_fzT, a_fzS, k_fzS, a_parN, k_parN, allS, setNE, a_gTN, a_fzd, k_fzd, c1, c2, c3, t2, own_tup]
    · simp [b_ok, b_stuck, b_exc, a_def, f_ok, f_exc, k_rt, k_nx, a_do, a_set, a_set2, a_drop, a_ret, a_unp, a_seq, k_seq, k_seqr, k_seqb, k_seqc, a_op, k_op, a_c, a_var, a_b, k_b, a_then, k_and1, k_and0, k_or1, k_or0, k_andV1, k_andV0, k_orV1, k_orV0, k_if1, k_if0, k_ifS1, k_ifS0, k_ifT1, k_ifT0, k_notV, k_not, a_yes, a_no, a_next, a_never, a_par, k_par, a_for, k_for, a_i1, k_i1, a_io, k_io, a_call, k_call, a_callP, k_callP, a_chain, k_chain, a_mut, k_mut, a_sto, k_sto, a_lc, k_lc, a_new, a_gN, a_gT, d_lt, d_le, d_gt, d_ge, d_intB, ev, rds, chk, pAny, pTup, pInt, takeA, wbE, permL, padE, outE, gNs, own_int, own_bl, own_str, own_non, own_tup, own_ins, own_frl, own_lst, own_dic, dTup, dLst, dAdd, dSub, dMulS, dDiv, dMod, dNeg, dInt, dAbs, dIsN, dNotN, D.isNon, dLen, dItems, dIx, dTru, D.tru, D.seq, fSetL, fAppend, sizeLine_eq, rg1, rg2, rg3, rg4, rg5, rg6, rg7, rg8, a_raise, k_raise, a_par3, k_par3, a_try, kt_ok, kt_exc, hdl, sEnd, dropN, inR, dRev, a_fz, k_fzL, k_fzF, k_fzT, a_fzS, k_fzS, a_parN, k_parN, allS, setNE, a_gTN, a_fzd, k_fzd, c1, c2, t1, own_tup]
  · simp [b_ok, b_stuck, b_exc, a_def, f_ok, f_exc, k_rt, k_nx, a_do, a_set, a_set2, a_drop, a_ret, a_unp, a_seq, k_seq, k_seqr, k_seqb, k_seqc, a_op, k_op, a_c, a_var, a_b, k_b, a_then, k_and1, k_and0, k_or1, k_or0, k_andV1, k_andV0, k_orV1, k_orV0, k_if1, k_if0, k_ifS1, k_ifS0, k_ifT1, k_ifT0, k_notV, k_not, a_yes, a_no, a_next, a_never, a_par, k_par, a_for, k_for, a_i1, k_i1, a_io, k_io, a_call, k_call, a_callP, k_callP, a_chain, k_chain, a_mut, k_mut, a_sto, k_sto, a_lc, k_lc, a_new, a_gN, a_gT, d_lt, d_le, d_gt, d_ge, d_intB, ev, rds, chk, pAny, pTup, pInt, takeA, wbE, permL, padE, outE, gNs, own_int, own_bl, own_str, own_non, own_tup, own_ins, own_frl, own_lst, own_dic, dTup, dLst, dAdd, dSub, dMulS, dDiv, dMod, dNeg, dInt, dAbs, dIsN, dNotN, D.isNon, dLen, dItems, dIx, dTru, D.tru, D.seq, fSetL, fAppend, sizeLine_eq, rg1, rg2, rg3, rg4, rg5, rg6, rg7, rg8, a_raise, k_raise, a_par3, k_par3, a_try, kt_ok, kt_exc, hdl, sEnd, dropN, inR, dRev, a_fz, k_fzL, k_fzF, k_fzT, a_fzS, k_fzS, a_parN, k_parN, allS, setNE, a_gTN, a_fzd, k_fzd, c1, t1, own_tup]
theorem eq_t0 (w : Str) (k : Int) (hw : (PyData.str w).canLay0 = true) : dEq [.tup [.str w, .int k], .tup []] = some (.bl false) := by
  refine (d_neU (p := .tuple [.str w, .int k]) (q := .tuple []) rfl rfl ?_ (by decide +kernel) (by simp [PyData.eqv, PyData.eqvAll])).2
  unfold SeqAt.shaped
  rw [Bool.and_eq_true, decide_eq_true_eq]
  refine ⟨?_, by simp [PyData.depth, PyData.depthAll]⟩
  have h : PyData.canLayAll0 [.str w, .int k] = true := by
    simp only [PyData.canLayAll0, hw]
    rfl
  exact h
theorem rr8 (a b n e : Int) (L : List Int) (q4 o5 : Option D) (hn : -2000000000 ≤ n ∧ n ≤ 2000000000) (he : -1 ≤ e ∧ e ≤ 1000000000) (hL : L.length ≤ 50) : RR_8 (en54 a b n e L q4 o5 (some (due54 n e L))) = .ok (.rt (.bl true), en54 a b n e L q4 o5 (some (due54 n e L))) := by
  have fin : ∀ (w : Str) (k : Int) (c : Nat), (PyData.str w).canLay0 = true → w.cps.toList.all (fun c => decide (c < 16 ^ 8)) = true → w.length ≤ 100 → k.natAbs.log2 < 1920 → due54 n e L = .tup [.str w, .int k] → F_class_count [some (.int n), some (.int e), some (.tup (L.map .int))] = .exc c (.int k) [some (.int n), some (.int e), some (.tup (L.map .int))] → FT__law_told (.exc c (.int k)) [none] = .ok (.tup [.str w, .int k], [none]) →
      RR_8 (en54 a b n e L q4 o5 (some (due54 n e L))) = .ok (.rt (.bl true), en54 a b n e L q4 o5 (some (due54 n e L))) := fun w k c h1 h2 h3 h4 hd kf ht => by
    have oT : (D.tup [.str w, .int k]).own = false := rfl
    have oL : (D.tup (L.map .int)).own = false := rfl
    have e0 := eq_t0 w k h1
    have t0 : dTup [] = some (.tup []) := rfl
    have lam : mLam [] FT__law_told w__law_refusals_right_4 (en54 a b n e L q4 o5 (some (.tup [.str w, .int k]))) = .ok (.tup [.str w, .int k], en54 a b n e L q4 o5 (some (.tup [.str w, .int k]))) := by
      refine lam0_exc (c := c) (w := .int k) ?_ ht rfl
      have to : dTupOf [.lst (L.map .int)] = some (.tup (L.map .int)) := rfl
      clear hd ht e0
      unfold en54
      generalize D.tup [.str w, .int k] = TT at *
      generalize D.tup (L.map .int) = TL at *
      generalize L.map D.int = L0 at *
      unfold w__law_refusals_right_4
      have all := And.intro kf to
      clear kf to
      revert all
      refine gen1 F_class_count ?_; intro f1
      refine gen1 dTupOf ?_; intro d1
      rintro ⟨kf, to⟩
      simp [b_ok, b_stuck, b_exc, a_def, f_ok, f_exc, k_rt, k_nx, a_do, a_set, a_set2, a_drop, a_ret, a_unp, a_seq, k_seq, k_seqr, k_seqb, k_seqc, a_op, k_op, a_c, a_var, a_b, k_b, a_then, k_and1, k_and0, k_or1, k_or0, k_andV1, k_andV0, k_orV1, k_orV0, k_if1, k_if0, k_ifS1, k_ifS0, k_ifT1, k_ifT0, k_notV, k_not, a_yes, a_no, a_next, a_never, a_par, k_par, a_for, k_for, a_i1, k_i1, a_io, k_io, a_call, k_call, a_callP, k_callP, a_chain, k_chain, a_mut, k_mut, a_sto, k_sto, a_lc, k_lc, a_new, a_gN, a_gT, d_lt, d_le, d_gt, d_ge, d_intB, ev, rds, chk, pAny, pTup, pInt, takeA, wbE, permL, padE, outE, gNs, own_int, own_bl, own_str, own_non, own_tup, own_ins, own_frl, own_lst, own_dic, dTup, dLst, dAdd, dSub, dMulS, dDiv, dMod, dNeg, dInt, dAbs, dIsN, dNotN, D.isNon, dLen, dItems, dIx, dTru, D.tru, D.seq, fSetL, fAppend, sizeLine_eq, rg1, rg2, rg3, rg4, rg5, rg6, rg7, rg8, a_raise, k_raise, a_par3, k_par3, a_try, kt_ok, kt_exc, hdl, sEnd, dropN, inR, dRev, a_fz, k_fzL, k_fzF, k_fzT, a_fzS, k_fzS, a_parN, k_parN, allS, setNE, a_gTN, a_fzd, k_fzd, kf, to, oL]
    have sh := sh_tup w k h2 h3 h4
    have nt := eqT_self (shD (.tup [.str w, .int k]))
    rw [hd]
    clear hd kf ht
    unfold en54 at *
    generalize shD (.tup [.str w, .int k]) = ST at *
    generalize D.tup [.str w, .int k] = T at *
    generalize L.map D.int = L0 at *
    unfold RR_8
    have all := And.intro lam <| And.intro sh <| And.intro nt <| And.intro e0 t0
    clear lam sh nt e0 t0
    revert all
    refine gen1 w__law_refusals_right_4 ?_; intro q1
    refine gen1 FT__law_told ?_; intro q2
    refine gen1 dShow ?_; intro d2
    refine gen1 dEqT ?_; intro d3
    refine gen1 mLam ?_; intro d4
    refine gen1 dEq ?_; intro d5
    refine gen1 dTup ?_; intro d6
    rintro ⟨lam, sh, nt, e0, t0⟩
    simp [b_ok, b_stuck, b_exc, a_def, f_ok, f_exc, k_rt, k_nx, a_do, a_set, a_set2, a_drop, a_ret, a_unp, a_seq, k_seq, k_seqr, k_seqb, k_seqc, a_op, k_op, a_c, a_var, a_b, k_b, a_then, k_and1, k_and0, k_or1, k_or0, k_andV1, k_andV0, k_orV1, k_orV0, k_if1, k_if0, k_ifS1, k_ifS0, k_ifT1, k_ifT0, k_notV, k_not, a_yes, a_no, a_next, a_never, a_par, k_par, a_for, k_for, a_i1, k_i1, a_io, k_io, a_call, k_call, a_callP, k_callP, a_chain, k_chain, a_mut, k_mut, a_sto, k_sto, a_lc, k_lc, a_new, a_gN, a_gT, d_lt, d_le, d_gt, d_ge, d_intB, ev, rds, chk, pAny, pTup, pInt, takeA, wbE, permL, padE, outE, gNs, own_int, own_bl, own_str, own_non, own_tup, own_ins, own_frl, own_lst, own_dic, dTup, dLst, dAdd, dSub, dMulS, dDiv, dMod, dNeg, dInt, dAbs, dIsN, dNotN, D.isNon, dLen, dItems, dIx, dTru, D.tru, D.seq, fSetL, fAppend, sizeLine_eq, rg1, rg2, rg3, rg4, rg5, rg6, rg7, rg8, a_raise, k_raise, a_par3, k_par3, a_try, kt_ok, kt_exc, hdl, sEnd, dropN, inR, dRev, a_fz, k_fzL, k_fzF, k_fzT, a_fzS, k_fzS, a_parN, k_parN, allS, setNE, a_gTN, a_fzd, k_fzd, lam, sh, nt, e0, t0, oT, own_str, own_tup]
  by_cases c1 : 1 ≤ n ∧ n ≤ 60
  · by_cases c2 : 0 ≤ e ∧ e ≤ 3
    · match hb : badsR L with
      | f :: fs =>
        obtain ⟨g1, g2, g3⟩ := badsR_first hb
        refine fin "rule" ((f : Nat) : Int) ix_BadRule (by decide +kernel) (by decide +kernel) (by decide +kernel) (log_sm (by omega) (by omega)) ?_ (cc_rule n e c1.1 c1.2 c2 L f g1 g2 g3) (t_word _ _ _ (by decide) (w_rule _))
        unfold due54 dueR
        rw [if_neg (fun z => z c1), if_neg (fun z => z c2), hb]
      | [] =>
        have hd : due54 n e L = .tup [] := by
          unfold due54 dueR
          rw [if_neg (fun z => z c1), if_neg (fun z => z c2), hb]
        rw [hd]
        have e0 : dEq [.tup [], .tup []] = some (.bl true) := d_eqS (by rfl)
        have t0 : dTup [] = some (.tup []) := rfl
        have oT : (D.tup []).own = false := rfl
        clear fin hd
        unfold en54
        generalize L.map D.int = L0 at *
        unfold RR_8
        have all := And.intro e0 t0
        clear e0 t0
        revert all
        refine gen1 dEq ?_; intro d5
        refine gen1 dTup ?_; intro d6
        rintro ⟨e0, t0⟩
        simp [b_ok, b_stuck, b_exc, a_def, f_ok, f_exc, k_rt, k_nx, a_do, a_set, a_set2, a_drop, a_ret, a_unp, a_seq, k_seq, k_seqr, k_seqb, k_seqc, a_op, k_op, a_c, a_var, a_b, k_b, a_then, k_and1, k_and0, k_or1, k_or0, k_andV1, k_andV0, k_orV1, k_orV0, k_if1, k_if0, k_ifS1, k_ifS0, k_ifT1, k_ifT0, k_notV, k_not, a_yes, a_no, a_next, a_never, a_par, k_par, a_for, k_for, a_i1, k_i1, a_io, k_io, a_call, k_call, a_callP, k_callP, a_chain, k_chain, a_mut, k_mut, a_sto, k_sto, a_lc, k_lc, a_new, a_gN, a_gT, d_lt, d_le, d_gt, d_ge, d_intB, ev, rds, chk, pAny, pTup, pInt, takeA, wbE, permL, padE, outE, gNs, own_int, own_bl, own_str, own_non, own_tup, own_ins, own_frl, own_lst, own_dic, dTup, dLst, dAdd, dSub, dMulS, dDiv, dMod, dNeg, dInt, dAbs, dIsN, dNotN, D.isNon, dLen, dItems, dIx, dTru, D.tru, D.seq, fSetL, fAppend, sizeLine_eq, rg1, rg2, rg3, rg4, rg5, rg6, rg7, rg8, a_raise, k_raise, a_par3, k_par3, a_try, kt_ok, kt_exc, hdl, sEnd, dropN, inR, dRev, a_fz, k_fzL, k_fzF, k_fzT, a_fzS, k_fzS, a_parN, k_parN, allS, setNE, a_gTN, a_fzd, k_fzd, e0, t0, oT]
    · refine fin "ends" e ix_BadEnds (by decide +kernel) (by decide +kernel) (by decide +kernel) (log_sm (by omega) (by omega)) ?_ (cc_ends n e c1.1 c1.2 (by omega) _ rfl) (t_word _ _ _ (by decide) (w_ends _))
      unfold due54
      rw [if_neg (fun z => z c1), if_pos c2]
  · refine fin "size" n ix_BadSize (by decide +kernel) (by decide +kernel) (by decide +kernel) (log_sm (by omega) (by omega)) ?_ (cc_size n e (by omega) _ rfl) (t_word _ _ _ (by decide) (w_size _))
    unfold due54
    rw [if_pos c1]
theorem c_refusals (a b : Int) (h : Src a b) : ∃ a' b', Src a' b' ∧ F__law_refusals_right [some (src a b)] = .ok (.bl true, [some (src a' b')]) := by
  obtain ⟨a1, b1, n1, e1', L1, s1, hn1, he1, l1, e1⟩ := rr1 a b h
  obtain ⟨a2, b2, n, s2, hn, e2⟩ := rr2 a1 b1 n1 e1' s1 hn1 L1
  obtain ⟨a3, b3, e, s3, he, e3⟩ := rr3 a2 b2 n e1' s2 he1 L1
  obtain ⟨a4, b4, L, q4, s4, hL, e4⟩ := rr4 a3 b3 n e s3 L1 l1
  have e5 := rr5 a4 b4 n e L hL q4
  have e6 := rr6 a4 b4 n e L q4
  have e7 := rr7 a4 b4 n e L q4 (some (.lst ((badsR L).map fun i : Nat => D.int i)))
  have e8 := rr8 a4 b4 n e L q4 (some (.lst ((badsR L).map fun i : Nat => D.int i))) hn he hL
  refine ⟨a4, b4, s4, ?_⟩
  show mDef 8 1 [1, 2, 3, 1, 2, 4, 5, 6, 6] m__law_refusals_right _ = _
  rw [RR_all]
  have all := And.intro e1 <| And.intro e2 <| And.intro e3 <| And.intro e4 <| And.intro e5 <| And.intro e6 <| And.intro e7 e8
  clear e1 e2 e3 e4 e5 e6 e7 e8
  revert all
  refine gen1 RR_1 ?_; intro f1
  refine gen1 RR_2 ?_; intro f2
  refine gen1 RR_3 ?_; intro f3
  refine gen1 RR_4 ?_; intro f4
  refine gen1 RR_5 ?_; intro f5
  refine gen1 RR_6 ?_; intro f6
  refine gen1 RR_7 ?_; intro f7
  refine gen1 RR_8 ?_; intro f8
  rintro ⟨e1, e2, e3, e4, e5, e6, e7, e8⟩
  simp [b_ok, b_stuck, b_exc, a_def, f_ok, f_exc, k_rt, k_nx, a_do, a_set, a_set2, a_drop, a_ret, a_unp, a_seq, k_seq, k_seqr, k_seqb, k_seqc, a_op, k_op, a_c, a_var, a_b, k_b, a_then, k_and1, k_and0, k_or1, k_or0, k_andV1, k_andV0, k_orV1, k_orV0, k_if1, k_if0, k_ifS1, k_ifS0, k_ifT1, k_ifT0, k_notV, k_not, a_yes, a_no, a_next, a_never, a_par, k_par, a_for, k_for, a_i1, k_i1, a_io, k_io, a_call, k_call, a_callP, k_callP, a_chain, k_chain, a_mut, k_mut, a_sto, k_sto, a_lc, k_lc, a_new, a_gN, a_gT, d_lt, d_le, d_gt, d_ge, d_intB, ev, rds, chk, pAny, pTup, pInt, takeA, wbE, permL, padE, outE, gNs, own_int, own_bl, own_str, own_non, own_tup, own_ins, own_frl, own_lst, own_dic, dTup, dLst, dAdd, dSub, dMulS, dDiv, dMod, dNeg, dInt, dAbs, dIsN, dNotN, D.isNon, dLen, dItems, dIx, dTru, D.tru, D.seq, fSetL, fAppend, sizeLine_eq, rg1, rg2, rg3, rg4, rg5, rg6, rg7, rg8, a_raise, k_raise, a_par3, k_par3, a_try, kt_ok, kt_exc, hdl, sEnd, dropN, inR, dRev, a_fz, k_fzL, k_fzF, k_fzT, a_fzS, k_fzS, a_parN, k_parN, allS, setNE, a_gTN, a_fzd, k_fzd, e1, e2, e3, e4, e5, e6, e7, e8]
end K54
namespace K54
open PySem TV
abbrev ln54 (ns : List Int) (a b : Int) (n e : Int) (o4 o5 o6 o7 o8 o9 : Option D) : TV.Env := [some (.frl (ns.map .int)), some (src a b), some (.int n), some (.int e), o4, o5, o6, o7, o8, o9, none]
theorem ll2 (ns : List Int) (a b : Int) (h : Src a b) : ∃ (a' b' : Int) (n : Nat) (e : Int), Src a' b' ∧ (1 ≤ n ∧ n ≤ 60) ∧ (0 ≤ e ∧ e ≤ 3) ∧ LL_2 [some (.frl (ns.map .int)), some (src a b), none, none, none, none, none, none, none, none, none] = .ok (.nx, ln54 ns a' b' (n : Nat) e none none none none none none) := by
  obtain ⟨a1, b1, u, s1, p1, p2, e1⟩ := e_take a b 60 h (by decide) (by decide)
  obtain ⟨a2, b2, v, s2, p3, p4, e2⟩ := e_take a1 b1 8 s1 (by decide) (by decide)
  obtain ⟨a3, b3, s, s3, hm, e3⟩ := e_one a2 b2 [60, 1 + u, 1 + v] s2 (by simp) (by simp)
  obtain ⟨a4, b4, e, s4, p5, p6, e4⟩ := e_take a3 b3 4 s3 (by decide) (by decide)
  obtain ⟨n, rfl⟩ : ∃ k : Nat, s = (k : Nat) := ⟨s.toNat, by
    simp only [List.mem_cons, List.not_mem_nil, or_false] at hm
    omega⟩
  refine ⟨a4, b4, n, e, s4, ?_, ⟨by omega, by omega⟩, ?_⟩
  · simp only [List.mem_cons, List.not_mem_nil, or_false] at hm
    omega
  · replace e3 : F__law_one [some (src a2 b2), some (.lst [.int 60, .int (1 + u), .int (1 + v)])] = .ok (.int (n : Nat), [some (src a3 b3), some (.lst [.int 60, .int (1 + u), .int (1 + v)])]) := e3
    have ad1 : dAdd [.int 1, .int u] = some (.int (1 + u)) := rfl
    have ad2 : dAdd [.int 1, .int v] = some (.int (1 + v)) := rfl
    have gl : dLst [.int 60, .int (1 + u), .int (1 + v)] = some (.lst [.int 60, .int (1 + u), .int (1 + v)]) := by simp [dLst, sizeLine_eq, own_int]
    clear hm
    unfold ln54
    generalize 1 + u = U at *
    generalize 1 + v = V at *
    generalize ((n : Nat) : Int) = N at *
    generalize D.frl (ns.map D.int) = FL at *
    unfold LL_2
    have all := And.intro e1 <| And.intro e2 <| And.intro e3 <| And.intro e4 <| And.intro ad1 <| And.intro ad2 gl
    clear e1 e2 e3 e4 ad1 ad2 gl
    revert all
    refine gen1 F__law_one ?_; intro f1
    refine gen1 F__law_take ?_; intro f2
    refine gen1 dAdd ?_; intro d1
    refine gen1 dLst ?_; intro d3
    rintro ⟨e1, e2, e3, e4, ad1, ad2, gl⟩
    simp [b_ok, b_stuck, b_exc, a_def, f_ok, f_exc, k_rt, k_nx, a_do, a_set, a_set2, a_drop, a_ret, a_unp, a_seq, k_seq, k_seqr, k_seqb, k_seqc, a_op, k_op, a_c, a_var, a_b, k_b, a_then, k_and1, k_and0, k_or1, k_or0, k_andV1, k_andV0, k_orV1, k_orV0, k_if1, k_if0, k_ifS1, k_ifS0, k_ifT1, k_ifT0, k_notV, k_not, a_yes, a_no, a_next, a_never, a_par, k_par, a_for, k_for, a_i1, k_i1, a_io, k_io, a_call, k_call, a_callP, k_callP, a_chain, k_chain, a_mut, k_mut, a_sto, k_sto, a_lc, k_lc, a_new, a_gN, a_gT, d_lt, d_le, d_gt, d_ge, d_intB, ev, rds, chk, pAny, pTup, pInt, takeA, wbE, permL, padE, outE, gNs, own_int, own_bl, own_str, own_non, own_tup, own_ins, own_frl, own_lst, own_dic, dTup, dLst, dAdd, dSub, dMulS, dDiv, dMod, dNeg, dInt, dAbs, dIsN, dNotN, D.isNon, dLen, dItems, dIx, dTru, D.tru, D.seq, fSetL, fAppend, sizeLine_eq, rg1, rg2, rg3, rg4, rg5, rg6, rg7, rg8, a_raise, k_raise, a_par3, k_par3, a_try, kt_ok, kt_exc, hdl, sEnd, dropN, inR, dRev, a_fz, k_fzL, k_fzF, k_fzT, a_fzS, k_fzS, a_parN, k_parN, allS, setNE, a_gTN, a_fzd, k_fzd, e1, e2, e3, e4, ad1, ad2, gl, -dLst]
theorem fac_log {n : Nat} (h : n ≤ 60) : (fac n).natAbs.log2 < 1920 := by
  obtain ⟨h1, h2⟩ := fac_bd n (List.mem_range.mpr (by omega))
  have := nabs_lt (b := 300) h1 h2 rfl
  by_cases z : (fac n).natAbs = 0
  · rw [z]; decide
  · exact (Nat.log2_lt z).mpr (Nat.lt_of_lt_of_le this (Nat.pow_le_pow_right (by decide) (by decide)))
theorem ll3 (ns : List Int) (a b : Int) (n : Nat) (e : Int) (hn : 1 ≤ n ∧ n ≤ 60) (he : 0 ≤ e ∧ e ≤ 3) : LL_3 (ln54 ns a b (n : Nat) e none none none none none none) = .ok (.nx, ln54 ns a b (n : Nat) e none none none none none none) := by
  have e1 := e_class_count n e (some []) hn.1 hn.2 he (fun l z => by cases z; exact ⟨.nil, fun n hn => by cases hn⟩)
  have c0 : ccZ (fun n => letsB (some []) n) n e = fac n := by
    rw [← cc_no hn.1 hn.2 he]
    exact cc_cong (fun m _ => by simp [letsB]) n e
  rw [c0] at e1
  have e2 := e_prod n hn.2
  have sh := sh_int (fac n) (fac_log hn.2)
  have nt := neT_self (shD (.int (fac n)))
  have t0 : dTup [] = some (.tup []) := rfl
  replace e1 : F_class_count [some (.int (n : Nat)), some (.int e), some (.tup [])] = .ok (.int (fac n), [some (.int (n : Nat)), some (.int e), some (.tup [])]) := e1
  have oT : (D.tup []).own = false := rfl
  clear c0
  unfold ln54
  generalize shD (.int (fac n)) = ST at *
  generalize fac n = FN at *
  generalize ((n : Nat) : Int) = N at *
  generalize D.frl (ns.map D.int) = FL at *
  unfold LL_3
  have all := And.intro e1 <| And.intro e2 <| And.intro sh <| And.intro nt t0
  clear e1 e2 sh nt t0
  revert all
  refine gen1 F_class_count ?_; intro f1
  refine gen1 F__law_product ?_; intro f2
  refine gen1 dShow ?_; intro d1
  refine gen1 dNeT ?_; intro d2
  refine gen1 dTup ?_; intro d3
  rintro ⟨e1, e2, sh, nt, t0⟩
  simp [b_ok, b_stuck, b_exc, a_def, f_ok, f_exc, k_rt, k_nx, a_do, a_set, a_set2, a_drop, a_ret, a_unp, a_seq, k_seq, k_seqr, k_seqb, k_seqc, a_op, k_op, a_c, a_var, a_b, k_b, a_then, k_and1, k_and0, k_or1, k_or0, k_andV1, k_andV0, k_orV1, k_orV0, k_if1, k_if0, k_ifS1, k_ifS0, k_ifT1, k_ifT0, k_notV, k_not, a_yes, a_no, a_next, a_never, a_par, k_par, a_for, k_for, a_i1, k_i1, a_io, k_io, a_call, k_call, a_callP, k_callP, a_chain, k_chain, a_mut, k_mut, a_sto, k_sto, a_lc, k_lc, a_new, a_gN, a_gT, d_lt, d_le, d_gt, d_ge, d_intB, ev, rds, chk, pAny, pTup, pInt, takeA, wbE, permL, padE, outE, gNs, own_int, own_bl, own_str, own_non, own_tup, own_ins, own_frl, own_lst, own_dic, dTup, dLst, dAdd, dSub, dMulS, dDiv, dMod, dNeg, dInt, dAbs, dIsN, dNotN, D.isNon, dLen, dItems, dIx, dTru, D.tru, D.seq, fSetL, fAppend, sizeLine_eq, rg1, rg2, rg3, rg4, rg5, rg6, rg7, rg8, a_raise, k_raise, a_par3, k_par3, a_try, kt_ok, kt_exc, hdl, sEnd, dropN, inR, dRev, a_fz, k_fzL, k_fzF, k_fzT, a_fzS, k_fzS, a_parN, k_parN, allS, setNE, a_gTN, a_fzd, k_fzd, e1, e2, sh, nt, t0, oT, own_str]
def whole : List Int := (List.range 39).map fun i : Nat => (2 + i : Int)
theorem ll4 (ns : List Int) (a b : Int) (h : Src a b) (n e : Int) : ∃ (a' b' : Int) (n' : Nat), Src a' b' ∧ (1 ≤ n' ∧ n' ≤ 60) ∧ LL_4 (ln54 ns a b n e none none none none none none) = .ok (.nx, ln54 ns a' b' (n' : Nat) e (some (.tup (whole.map .int))) none none none none none) := by
  obtain ⟨a1, b1, u, s1, p1, p2, e1⟩ := e_take a b 40 h (by decide) (by decide)
  obtain ⟨a2, b2, v, s2, p3, p4, e2⟩ := e_take a1 b1 20 s1 (by decide) (by decide)
  obtain ⟨a3, b3, s, s3, hm, e3⟩ := e_one a2 b2 [1 + u, 40, 41, 41 + v] s2 (by simp) (by simp)
  obtain ⟨n', rfl⟩ : ∃ k : Nat, s = (k : Nat) := ⟨s.toNat, by
    simp only [List.mem_cons, List.not_mem_nil, or_false] at hm
    omega⟩
  refine ⟨a3, b3, n', s3, ?_, ?_⟩
  · simp only [List.mem_cons, List.not_mem_nil, or_false] at hm
    omega
  · replace e3 : F__law_one [some (src a2 b2), some (.lst [.int (1 + u), .int 40, .int 41, .int (41 + v)])] = .ok (.int (n' : Nat), [some (src a3 b3), some (.lst [.int (1 + u), .int 40, .int 41, .int (41 + v)])]) := e3
    have ad1 : dAdd [.int 1, .int u] = some (.int (1 + u)) := rfl
    have ad2 : dAdd [.int 41, .int v] = some (.int (41 + v)) := rfl
    have gl : dLst [.int (1 + u), .int 40, .int 41, .int (41 + v)] = some (.lst [.int (1 + u), .int 40, .int 41, .int (41 + v)]) := by simp [dLst, sizeLine_eq, own_int]
    have tr : dTupR2 [.int 2, .int 41] = some (.tup (whole.map .int)) := by
      have e41 : (41 - 2 : Int).toNat = 39 := rfl
      show (if -(2 ^ 62) ≤ (2 : Int) ∧ (2 : Int) < 2 ^ 62 ∧ -(2 ^ 62) ≤ (41 : Int) ∧ (41 : Int) < 2 ^ 62 ∧ (41 - 2 : Int).toNat ≤ 2 ^ 24 then some (D.tup (dRng 2 (41 - 2 : Int).toNat)) else none) = _
      rw [if_pos (by decide), e41]
      unfold whole
      rw [List.map_map]
      rfl
    have oT : (D.tup (whole.map .int)).own = false := rfl
    clear hm
    unfold ln54
    generalize D.tup (whole.map D.int) = WH at *
    generalize 1 + u = U at *
    generalize 41 + v = V at *
    generalize ((n' : Nat) : Int) = N at *
    generalize D.frl (ns.map D.int) = FL at *
    unfold LL_4
    have all := And.intro e1 <| And.intro e2 <| And.intro e3 <| And.intro tr <| And.intro ad1 <| And.intro ad2 gl
    clear e1 e2 e3 tr ad1 ad2 gl
    revert all
    refine gen1 F__law_one ?_; intro f1
    refine gen1 F__law_take ?_; intro f2
    refine gen1 dAdd ?_; intro d1
    refine gen1 dLst ?_; intro d3
    refine gen1 dTupR2 ?_; intro d4
    rintro ⟨e1, e2, e3, tr, ad1, ad2, gl⟩
    simp [b_ok, b_stuck, b_exc, a_def, f_ok, f_exc, k_rt, k_nx, a_do, a_set, a_set2, a_drop, a_ret, a_unp, a_seq, k_seq, k_seqr, k_seqb, k_seqc, a_op, k_op, a_c, a_var, a_b, k_b, a_then, k_and1, k_and0, k_or1, k_or0, k_andV1, k_andV0, k_orV1, k_orV0, k_if1, k_if0, k_ifS1, k_ifS0, k_ifT1, k_ifT0, k_notV, k_not, a_yes, a_no, a_next, a_never, a_par, k_par, a_for, k_for, a_i1, k_i1, a_io, k_io, a_call, k_call, a_callP, k_callP, a_chain, k_chain, a_mut, k_mut, a_sto, k_sto, a_lc, k_lc, a_new, a_gN, a_gT, d_lt, d_le, d_gt, d_ge, d_intB, ev, rds, chk, pAny, pTup, pInt, takeA, wbE, permL, padE, outE, gNs, own_int, own_bl, own_str, own_non, own_tup, own_ins, own_frl, own_lst, own_dic, dTup, dLst, dAdd, dSub, dMulS, dDiv, dMod, dNeg, dInt, dAbs, dIsN, dNotN, D.isNon, dLen, dItems, dIx, dTru, D.tru, D.seq, fSetL, fAppend, sizeLine_eq, rg1, rg2, rg3, rg4, rg5, rg6, rg7, rg8, a_raise, k_raise, a_par3, k_par3, a_try, kt_ok, kt_exc, hdl, sEnd, dropN, inR, dRev, a_fz, k_fzL, k_fzF, k_fzT, a_fzS, k_fzS, a_parN, k_parN, allS, setNE, a_gTN, a_fzd, k_fzd, e1, e2, e3, tr, ad1, ad2, gl, oT, -dLst]
theorem whole_mem (m : Nat) : ((m : Nat) : Int) ∈ whole ↔ 2 ≤ m ∧ m ≤ 40 := by
  constructor
  · intro h
    obtain ⟨i, hi, e⟩ := List.mem_map.mp h
    have := List.mem_range.mp hi
    omega
  · intro h
    exact List.mem_map.mpr ⟨m - 2, List.mem_range.mpr (by omega), by omega⟩
theorem whole_ok : okR (some whole) := fun l z => by
  cases z
  refine ⟨List.Pairwise.map _ (fun a b h => by omega) List.pairwise_lt_range, fun n hn => ?_⟩
  obtain ⟨i, hi, rfl⟩ := List.mem_map.mp hn
  have := List.mem_range.mp hi
  omega
theorem ll5 (ns : List Int) (a b : Int) (n : Nat) (e : Int) (hn : 1 ≤ n ∧ n ≤ 60) (he : 0 ≤ e ∧ e ≤ 3) : LL_5 (ln54 ns a b (n : Nat) e (some (.tup (whole.map .int))) none none none none none) = .ok (.nx, ln54 ns a b (n : Nat) e (some (.tup (whole.map .int))) (some (.int (ccZ whB n e))) (some (.int (ccZ yesB n e))) none none none) := by
  have e1 := e_class_count n e (some whole) hn.1 hn.2 he whole_ok
  have c1 : ccZ (fun n => letsB (some whole) n) n e = ccZ whB n e := cc_cong (fun m _ => by
    have z := whole_mem m
    simp only [letsB, whB]
    by_cases c : 2 ≤ m ∧ m ≤ 40
    · rw [decide_eq_true (z.mpr c), decide_eq_true c.1, decide_eq_true c.2]; rfl
    · rw [decide_eq_false (fun h => c (z.mp h))]
      by_cases c2 : 2 ≤ m
      · rw [decide_eq_false (fun h => c ⟨c2, h⟩), Bool.and_false]
      · rw [decide_eq_false c2, Bool.false_and]) n e
  rw [c1] at e1
  have e2 := e_class_count n e none hn.1 hn.2 he (fun l z => by cases z)
  have c2 : ccZ (fun n => letsB none n) n e = ccZ yesB n e := cc_cong (fun m _ => by simp [letsB]) n e
  rw [c2] at e2
  replace e1 : F_class_count [some (.int (n : Nat)), some (.int e), some (.tup (whole.map .int))] = .ok (.int (ccZ whB n e), [some (.int (n : Nat)), some (.int e), some (.tup (whole.map .int))]) := e1
  replace e2 : F_class_count [some (.int (n : Nat)), some (.int e), some .non] = .ok (.int (ccZ yesB n e), [some (.int (n : Nat)), some (.int e), some .non]) := e2
  have oT : (D.tup (whole.map .int)).own = false := rfl
  clear c1 c2
  unfold ln54
  generalize D.tup (whole.map D.int) = WH at *
  generalize ccZ whB n e = W at *
  generalize ccZ yesB n e = Y at *
  generalize ((n : Nat) : Int) = N at *
  generalize D.frl (ns.map D.int) = FL at *
  unfold LL_5
  have all := And.intro e1 e2
  clear e1 e2
  revert all
  refine gen1 F_class_count ?_; intro f1
  rintro ⟨e1, e2⟩
  simp [b_ok, b_stuck, b_exc, a_def, f_ok, f_exc, k_rt, k_nx, a_do, a_set, a_set2, a_drop, a_ret, a_unp, a_seq, k_seq, k_seqr, k_seqb, k_seqc, a_op, k_op, a_c, a_var, a_b, k_b, a_then, k_and1, k_and0, k_or1, k_or0, k_andV1, k_andV0, k_orV1, k_orV0, k_if1, k_if0, k_ifS1, k_ifS0, k_ifT1, k_ifT0, k_notV, k_not, a_yes, a_no, a_next, a_never, a_par, k_par, a_for, k_for, a_i1, k_i1, a_io, k_io, a_call, k_call, a_callP, k_callP, a_chain, k_chain, a_mut, k_mut, a_sto, k_sto, a_lc, k_lc, a_new, a_gN, a_gT, d_lt, d_le, d_gt, d_ge, d_intB, ev, rds, chk, pAny, pTup, pInt, takeA, wbE, permL, padE, outE, gNs, own_int, own_bl, own_str, own_non, own_tup, own_ins, own_frl, own_lst, own_dic, dTup, dLst, dAdd, dSub, dMulS, dDiv, dMod, dNeg, dInt, dAbs, dIsN, dNotN, D.isNon, dLen, dItems, dIx, dTru, D.tru, D.seq, fSetL, fAppend, sizeLine_eq, rg1, rg2, rg3, rg4, rg5, rg6, rg7, rg8, a_raise, k_raise, a_par3, k_par3, a_try, kt_ok, kt_exc, hdl, sEnd, dropN, inR, dRev, a_fz, k_fzL, k_fzF, k_fzT, a_fzS, k_fzS, a_parN, k_parN, allS, setNE, a_gTN, a_fzd, k_fzd, e1, e2, oT]
theorem ll6 (ns : List Int) (a b : Int) (n : Nat) (e : Int) (hn : 1 ≤ n ∧ n ≤ 60) (he : 0 ≤ e ∧ e ≤ 3) (o4 : Option D) : LL_6 (ln54 ns a b (n : Nat) e o4 (some (.int (ccZ whB n e))) (some (.int (ccZ yesB n e))) none none none) = .ok (.nx, ln54 ns a b (n : Nat) e o4 (some (.int (ccZ whB n e))) (some (.int (ccZ yesB n e))) none none none) := by
  obtain ⟨h1, h2⟩ := cc_wh hn.1 hn.2 he
  have g1 : dLt [.int (ccZ whB n e), .int (ccZ yesB n e)] = some (.bl false) := by
    rw [d_lt, decide_eq_false (by omega)]
  have g2 : dGt [.int (ccZ whB n e), .int (ccZ yesB n e)] = some (.bl (decide (ccZ yesB n e < ccZ whB n e))) := by
    rw [d_gt]
  have g3 : dGt [.int (n : Nat), .int (capZ e)] = some (.bl (decide (capZ e < (n : Nat)))) := by
    rw [d_gt]
  have gl : dLst [.int 42, .int 41, .int 41, .int 40] = some (.lst [.int 42, .int 41, .int 41, .int 40]) := by simp [dLst, sizeLine_eq, own_int]
  have gx : dIx [.lst [.int 42, .int 41, .int 41, .int 40], .int e] = some (.int (capZ e)) := by
    have : e = 0 ∨ e = 1 ∨ e = 2 ∨ e = 3 := by omega
    rcases this with rfl | rfl | rfl | rfl <;> rfl
  rw [← h2] at g3
  have ne : dNe [.bl (decide (ccZ yesB n e < ccZ whB n e)), .bl (decide (ccZ yesB n e < ccZ whB n e))] = some (.bl false) := d_neS (by rfl)
  clear h1 h2
  generalize decide (ccZ yesB n e < ccZ whB n e) = B at *
  unfold ln54
  generalize ccZ whB n e = W at *
  generalize ccZ yesB n e = Y at *
  generalize capZ e = C at *
  generalize ((n : Nat) : Int) = N at *
  generalize D.frl (ns.map D.int) = FL at *
  unfold LL_6
  have all := And.intro g1 <| And.intro g2 <| And.intro g3 <| And.intro gl <| And.intro gx ne
  clear g1 g2 g3 gl gx ne
  revert all
  refine gen1 dLt ?_; intro d1
  refine gen1 dGt ?_; intro d2
  refine gen1 dLst ?_; intro d3
  refine gen1 dIx ?_; intro d4
  refine gen1 dNe ?_; intro d5
  rintro ⟨g1, g2, g3, gl, gx, ne⟩
  simp [b_ok, b_stuck, b_exc, a_def, f_ok, f_exc, k_rt, k_nx, a_do, a_set, a_set2, a_drop, a_ret, a_unp, a_seq, k_seq, k_seqr, k_seqb, k_seqc, a_op, k_op, a_c, a_var, a_b, k_b, a_then, k_and1, k_and0, k_or1, k_or0, k_andV1, k_andV0, k_orV1, k_orV0, k_if1, k_if0, k_ifS1, k_ifS0, k_ifT1, k_ifT0, k_notV, k_not, a_yes, a_no, a_next, a_never, a_par, k_par, a_for, k_for, a_i1, k_i1, a_io, k_io, a_call, k_call, a_callP, k_callP, a_chain, k_chain, a_mut, k_mut, a_sto, k_sto, a_lc, k_lc, a_new, a_gN, a_gT, d_lt, d_le, d_gt, d_ge, d_intB, ev, rds, chk, pAny, pTup, pInt, takeA, wbE, permL, padE, outE, gNs, own_int, own_bl, own_str, own_non, own_tup, own_ins, own_frl, own_lst, own_dic, dTup, dLst, dAdd, dSub, dMulS, dDiv, dMod, dNeg, dInt, dAbs, dIsN, dNotN, D.isNon, dLen, dItems, dIx, dTru, D.tru, D.seq, fSetL, fAppend, sizeLine_eq, rg1, rg2, rg3, rg4, rg5, rg6, rg7, rg8, a_raise, k_raise, a_par3, k_par3, a_try, kt_ok, kt_exc, hdl, sEnd, dropN, inR, dRev, a_fz, k_fzL, k_fzF, k_fzT, a_fzS, k_fzS, a_parN, k_parN, allS, setNE, a_gTN, a_fzd, k_fzd, mOr, g1, g2, g3, gl, gx, ne]
theorem ll7 (ns : List Int) (a b : Int) (h : Src a b) (n e : Int) (o4 o5 o6 : Option D) : ∃ (a' b' : Int) (l : List Int) (m : Int), Src a' b' ∧ okR (some l) ∧ l.length ≤ 39 ∧ (2 ≤ m ∧ m ≤ 40) ∧ LL_7 (ln54 ns a b n e o4 o5 o6 none none none) = .ok (.nx, ln54 ns a' b' n e o4 o5 o6 (some (.tup (l.map .int))) (some (.int m)) none) := by
  obtain ⟨a1, b1, l, s1, hl, ll, e1⟩ := e_lens a b h
  obtain ⟨a2, b2, t, s2, p1, p2, e2⟩ := e_take a1 b1 39 s1 (by decide) (by decide)
  refine ⟨a2, b2, l, 2 + t, s2, hl, ll, ⟨by omega, by omega⟩, ?_⟩
  have ad : dAdd [.int 2, .int t] = some (.int (2 + t)) := rfl
  have tp : dTup [.tup (l.map .int), .int (2 + t)] = some (.tup [.tup (l.map .int), .int (2 + t)]) := by simp [dTup, own_tup, own_int, sizeLine_eq]
  have oT : (D.tup (l.map .int)).own = false := rfl
  clear hl ll
  unfold ln54
  generalize D.tup (l.map .int) = T at *
  generalize 2 + t = M at *
  generalize D.frl (ns.map D.int) = FL at *
  unfold LL_7
  have all := And.intro e1 <| And.intro e2 <| And.intro ad tp
  clear e1 e2 ad tp
  revert all
  refine gen1 F__law_lengths ?_; intro f1
  refine gen1 F__law_take ?_; intro f2
  refine gen1 dAdd ?_; intro d1
  refine gen1 dTup ?_; intro d2
  rintro ⟨e1, e2, ad, tp⟩
  simp [b_ok, b_stuck, b_exc, a_def, f_ok, f_exc, k_rt, k_nx, a_do, a_set, a_set2, a_drop, a_ret, a_unp, a_seq, k_seq, k_seqr, k_seqb, k_seqc, a_op, k_op, a_c, a_var, a_b, k_b, a_then, k_and1, k_and0, k_or1, k_or0, k_andV1, k_andV0, k_orV1, k_orV0, k_if1, k_if0, k_ifS1, k_ifS0, k_ifT1, k_ifT0, k_notV, k_not, a_yes, a_no, a_next, a_never, a_par, k_par, a_for, k_for, a_i1, k_i1, a_io, k_io, a_call, k_call, a_callP, k_callP, a_chain, k_chain, a_mut, k_mut, a_sto, k_sto, a_lc, k_lc, a_new, a_gN, a_gT, d_lt, d_le, d_gt, d_ge, d_intB, ev, rds, chk, pAny, pTup, pInt, takeA, wbE, permL, padE, outE, gNs, own_int, own_bl, own_str, own_non, own_tup, own_ins, own_frl, own_lst, own_dic, dTup, dLst, dAdd, dSub, dMulS, dDiv, dMod, dNeg, dInt, dAbs, dIsN, dNotN, D.isNon, dLen, dItems, dIx, dTru, D.tru, D.seq, fSetL, fAppend, sizeLine_eq, rg1, rg2, rg3, rg4, rg5, rg6, rg7, rg8, a_raise, k_raise, a_par3, k_par3, a_try, kt_ok, kt_exc, hdl, sEnd, dropN, inR, dRev, a_fz, k_fzL, k_fzF, k_fzT, a_fzS, k_fzS, a_parN, k_parN, allS, setNE, a_gTN, a_fzd, k_fzd, e1, e2, ad, tp, oT]
def wider (l : List Int) (m : Int) : List Int := sortI (l.filter (fun x => x != m) ++ [m])
theorem ll8 (ns : List Int) (a b n e : Int) (o4 o5 o6 : Option D) (l : List Int) (m : Int) (ll : l.length ≤ 39) : LL_8 (ln54 ns a b n e o4 o5 o6 (some (.tup (l.map .int))) (some (.int m)) none) = .ok (.nx, ln54 ns a b n e o4 o5 o6 (some (.tup (l.map .int))) (some (.int m)) (some (.tup ((wider l m).map .int)))) := by
  have lc := lc_map (vs := [10]) (i := 10) (t := t_law_1) (u := u_law_2) (f := fun x : Int => D.int x) (g := fun x : Int => D.int x) (b := fun x => x != m) (ρ := ln54 ns a b n e o4 o5 o6 (some (.tup (l.map .int))) (some (.int m)) none) l [] (fun x hx => by
    refine ⟨?_, fun _ => ⟨by simp [b_ok, b_stuck, b_exc, a_def, f_ok, f_exc, k_rt, k_nx, a_do, a_set, a_set2, a_drop, a_ret, a_unp, a_seq, k_seq, k_seqr, k_seqb, k_seqc, a_op, k_op, a_c, a_var, a_b, k_b, a_then, k_and1, k_and0, k_or1, k_or0, k_andV1, k_andV0, k_orV1, k_orV0, k_if1, k_if0, k_ifS1, k_ifS0, k_ifT1, k_ifT0, k_notV, k_not, a_yes, a_no, a_next, a_never, a_par, k_par, a_for, k_for, a_i1, k_i1, a_io, k_io, a_call, k_call, a_callP, k_callP, a_chain, k_chain, a_mut, k_mut, a_sto, k_sto, a_lc, k_lc, a_new, a_gN, a_gT, d_lt, d_le, d_gt, d_ge, d_intB, ev, rds, chk, pAny, pTup, pInt, takeA, wbE, permL, padE, outE, gNs, own_int, own_bl, own_str, own_non, own_tup, own_ins, own_frl, own_lst, own_dic, dTup, dLst, dAdd, dSub, dMulS, dDiv, dMod, dNeg, dInt, dAbs, dIsN, dNotN, D.isNon, dLen, dItems, dIx, dTru, D.tru, D.seq, fSetL, fAppend, sizeLine_eq, rg1, rg2, rg3, rg4, rg5, rg6, rg7, rg8, a_raise, k_raise, a_par3, k_par3, a_try, kt_ok, kt_exc, hdl, sEnd, dropN, inR, dRev, a_fz, k_fzL, k_fzF, k_fzT, a_fzS, k_fzS, a_parN, k_parN, allS, setNE, a_gTN, a_fzd, k_fzd, u_law_2], rfl⟩, by simp [wipeE]⟩
    have ne : dNe [.int x, .int m] = some (.bl (x != m)) := by
      rw [d_neI]
      congr 2
    show t_law_1 [some (.frl (ns.map .int)), some (src a b), some (.int n), some (.int e), o4, o5, o6, some (.tup (l.map .int)), some (.int m), none, some (.int x)] = .ok (x != m, [some (.frl (ns.map .int)), some (src a b), some (.int n), some (.int e), o4, o5, o6, some (.tup (l.map .int)), some (.int m), none, some (.int x)])
    generalize (x != m) = B at *
    unfold t_law_1
    revert ne
    refine gen1 dNe ?_; intro d1 ne
    simp [b_ok, b_stuck, b_exc, a_def, f_ok, f_exc, k_rt, k_nx, a_do, a_set, a_set2, a_drop, a_ret, a_unp, a_seq, k_seq, k_seqr, k_seqb, k_seqc, a_op, k_op, a_c, a_var, a_b, k_b, a_then, k_and1, k_and0, k_or1, k_or0, k_andV1, k_andV0, k_orV1, k_orV0, k_if1, k_if0, k_ifS1, k_ifS0, k_ifT1, k_ifT0, k_notV, k_not, a_yes, a_no, a_next, a_never, a_par, k_par, a_for, k_for, a_i1, k_i1, a_io, k_io, a_call, k_call, a_callP, k_callP, a_chain, k_chain, a_mut, k_mut, a_sto, k_sto, a_lc, k_lc, a_new, a_gN, a_gT, d_lt, d_le, d_gt, d_ge, d_intB, ev, rds, chk, pAny, pTup, pInt, takeA, wbE, permL, padE, outE, gNs, own_int, own_bl, own_str, own_non, own_tup, own_ins, own_frl, own_lst, own_dic, dTup, dLst, dAdd, dSub, dMulS, dDiv, dMod, dNeg, dInt, dAbs, dIsN, dNotN, D.isNon, dLen, dItems, dIx, dTru, D.tru, D.seq, fSetL, fAppend, sizeLine_eq, rg1, rg2, rg3, rg4, rg5, rg6, rg7, rg8, a_raise, k_raise, a_par3, k_par3, a_try, kt_ok, kt_exc, hdl, sEnd, dropN, inR, dRev, a_fz, k_fzL, k_fzF, k_fzT, a_fzS, k_fzS, a_parN, k_parN, allS, setNE, a_gTN, a_fzd, k_fzd, ne]) (by rw [sizeLine_eq]; simp; omega)
  rw [List.nil_append] at lc
  have gl : dLst [.int m] = some (.lst [.int m]) := by simp [dLst, sizeLine_eq, own_int]
  have ad : dAdd [.lst ((l.filter fun x => x != m).map .int), .lst [.int m]] = some (.lst ((l.filter (fun x => x != m) ++ [m]).map .int)) := add_lstI (l.filter fun x => x != m) [m] (by have := List.length_filter_le (fun x => x != m) l; simp; omega)
  have so := sort_lst (l.filter (fun x => x != m) ++ [m])
  have to : dTupOf [.lst ((sortI (l.filter (fun x => x != m) ++ [m])).map .int)] = some (.tup ((sortI (l.filter (fun x => x != m) ++ [m])).map .int)) := rfl
  have oT : (D.tup ((sortI (l.filter (fun x => x != m) ++ [m])).map .int)).own = false := rfl
  have oL : (D.tup (l.map .int)).own = false := rfl
  have sq : (D.tup (l.map D.int)).seq = some (l.map D.int) := rfl
  unfold wider
  unfold ln54 at *
  generalize D.tup ((sortI (l.filter (fun x => x != m) ++ [m])).map .int) = T2 at *
  generalize (sortI (l.filter (fun x => x != m) ++ [m])).map D.int = L3 at *
  generalize (l.filter (fun x => x != m) ++ [m]).map D.int = L2 at *
  generalize (l.filter fun x => x != m).map D.int = L1 at *
  generalize D.tup (l.map .int) = T1 at *
  generalize l.map D.int = L0 at *
  generalize D.frl (ns.map D.int) = FL at *
  unfold LL_8
  have all := And.intro lc <| And.intro gl <| And.intro ad <| And.intro so <| And.intro to sq
  clear lc gl ad so to sq
  revert all
  refine gen1 t_law_1 ?_; intro q1
  refine gen1 u_law_2 ?_; intro q2
  refine gen1 dLst ?_; intro d1
  refine gen1 dAdd ?_; intro d2
  refine gen1 dSort ?_; intro d3
  refine gen1 dTupOf ?_; intro d4
  refine gen1 D.seq ?_; intro d5
  rintro ⟨lc, gl, ad, so, to, sq⟩
  simp [b_ok, b_stuck, b_exc, a_def, f_ok, f_exc, k_rt, k_nx, a_do, a_set, a_set2, a_drop, a_ret, a_unp, a_seq, k_seq, k_seqr, k_seqb, k_seqc, a_op, k_op, a_c, a_var, a_b, k_b, a_then, k_and1, k_and0, k_or1, k_or0, k_andV1, k_andV0, k_orV1, k_orV0, k_if1, k_if0, k_ifS1, k_ifS0, k_ifT1, k_ifT0, k_notV, k_not, a_yes, a_no, a_next, a_never, a_par, k_par, a_for, k_for, a_i1, k_i1, a_io, k_io, a_call, k_call, a_callP, k_callP, a_chain, k_chain, a_mut, k_mut, a_sto, k_sto, a_lc, k_lc, a_new, a_gN, a_gT, d_lt, d_le, d_gt, d_ge, d_intB, ev, rds, chk, pAny, pTup, pInt, takeA, wbE, permL, padE, outE, gNs, own_int, own_bl, own_str, own_non, own_tup, own_ins, own_frl, own_lst, own_dic, dTup, dLst, dAdd, dSub, dMulS, dDiv, dMod, dNeg, dInt, dAbs, dIsN, dNotN, D.isNon, dLen, dItems, dIx, dTru, D.tru, D.seq, fSetL, fAppend, sizeLine_eq, rg1, rg2, rg3, rg4, rg5, rg6, rg7, rg8, a_raise, k_raise, a_par3, k_par3, a_try, kt_ok, kt_exc, hdl, sEnd, dropN, inR, dRev, a_fz, k_fzL, k_fzF, k_fzT, a_fzS, k_fzS, a_parN, k_parN, allS, setNE, a_gTN, a_fzd, k_fzd, wipeE, lc, gl, ad, so, to, sq, oT, oL]
theorem wider_ok {l : List Int} {m : Int} (h : okR (some l)) (hm : 2 ≤ m ∧ m ≤ 40) : okR (some (wider l m)) := fun l' z => by
  cases z
  obtain ⟨pw, bd⟩ := h l rfl
  have pm := sortI_perm (l.filter (fun x => x != m) ++ [m])
  have nd : (l.filter (fun x => x != m) ++ [m]).Nodup := by
    rw [List.nodup_append]
    refine ⟨List.Pairwise.filter _ (pw.imp fun h => by omega), by simp, fun x hx y hy => ?_⟩
    cases List.mem_singleton.mp hy
    have := (List.mem_filter.mp hx).2
    simpa using this
  refine ⟨List.Pairwise.imp₂ (fun a b (h : a ≤ b) (n : a ≠ b) => by omega) (sortI_sorted _) (pm.nodup_iff.mpr nd), fun n hn => ?_⟩
  have hn := pm.mem_iff.mp hn
  rcases List.mem_append.mp hn with z | z
  · exact bd n (List.mem_filter.mp z).1
  · cases List.mem_singleton.mp z
    exact hm
theorem wider_mem {l : List Int} {m x : Int} (h : x ∈ l) : x ∈ wider l m := by
  refine (sortI_perm (l.filter (fun x => x != m) ++ [m])).mem_iff.mpr ?_
  by_cases c : x = m
  · exact List.mem_append_right _ (by rw [c]; simp)
  · exact List.mem_append_left _ (List.mem_filter.mpr ⟨h, by simpa using c⟩)
theorem ll9 (ns : List Int) (a b : Int) (n : Nat) (e : Int) (hn : 1 ≤ n ∧ n ≤ 60) (he : 0 ≤ e ∧ e ≤ 3) (o4 o5 o6 o8 : Option D) (l : List Int) (m : Int) (hl : okR (some l)) (hm : 2 ≤ m ∧ m ≤ 40) : LL_9 (ln54 ns a b (n : Nat) e o4 o5 o6 (some (.tup (l.map .int))) o8 (some (.tup ((wider l m).map .int)))) = .ok (.nx, ln54 ns a b (n : Nat) e o4 o5 o6 (some (.tup (l.map .int))) o8 (some (.tup ((wider l m).map .int)))) := by
  have e1 := e_class_count n e (some (wider l m)) hn.1 hn.2 he (wider_ok hl hm)
  have e2 := e_class_count n e (some l) hn.1 hn.2 he hl
  have mo : ccZ (fun n => letsB (some (wider l m)) n) n e ≤ ccZ (fun n => letsB (some l) n) n e := cc_mono (fun k hk => by
    simp only [letsB] at hk ⊢
    exact decide_eq_true (wider_mem (of_decide_eq_true hk))) n e
  replace e1 : F_class_count [some (.int (n : Nat)), some (.int e), some (.tup ((wider l m).map .int))] = .ok (.int (ccZ (fun n => letsB (some (wider l m)) n) n e), [some (.int (n : Nat)), some (.int e), some (.tup ((wider l m).map .int))]) := e1
  replace e2 : F_class_count [some (.int (n : Nat)), some (.int e), some (.tup (l.map .int))] = .ok (.int (ccZ (fun n => letsB (some l) n) n e), [some (.int (n : Nat)), some (.int e), some (.tup (l.map .int))]) := e2
  generalize ccZ (fun n => letsB (some (wider l m)) n) n e = W at *
  generalize ccZ (fun n => letsB (some l) n) n e = Y at *
  have g1 : dGt [.int W, .int Y] = some (.bl false) := by
    rw [d_gt, decide_eq_false (by omega)]
  have o1 : (D.tup ((wider l m).map .int)).own = false := rfl
  have o2 : (D.tup (l.map .int)).own = false := rfl
  clear hl mo
  unfold ln54
  generalize D.tup ((wider l m).map .int) = T1 at *
  generalize D.tup (l.map .int) = T2 at *
  generalize ((n : Nat) : Int) = N at *
  generalize D.frl (ns.map D.int) = FL at *
  unfold LL_9
  have all := And.intro e1 <| And.intro e2 g1
  clear e1 e2 g1
  revert all
  refine gen1 F_class_count ?_; intro f1
  refine gen1 dGt ?_; intro d1
  rintro ⟨e1, e2, g1⟩
  simp [b_ok, b_stuck, b_exc, a_def, f_ok, f_exc, k_rt, k_nx, a_do, a_set, a_set2, a_drop, a_ret, a_unp, a_seq, k_seq, k_seqr, k_seqb, k_seqc, a_op, k_op, a_c, a_var, a_b, k_b, a_then, k_and1, k_and0, k_or1, k_or0, k_andV1, k_andV0, k_orV1, k_orV0, k_if1, k_if0, k_ifS1, k_ifS0, k_ifT1, k_ifT0, k_notV, k_not, a_yes, a_no, a_next, a_never, a_par, k_par, a_for, k_for, a_i1, k_i1, a_io, k_io, a_call, k_call, a_callP, k_callP, a_chain, k_chain, a_mut, k_mut, a_sto, k_sto, a_lc, k_lc, a_new, a_gN, a_gT, d_lt, d_le, d_gt, d_ge, d_intB, ev, rds, chk, pAny, pTup, pInt, takeA, wbE, permL, padE, outE, gNs, own_int, own_bl, own_str, own_non, own_tup, own_ins, own_frl, own_lst, own_dic, dTup, dLst, dAdd, dSub, dMulS, dDiv, dMod, dNeg, dInt, dAbs, dIsN, dNotN, D.isNon, dLen, dItems, dIx, dTru, D.tru, D.seq, fSetL, fAppend, sizeLine_eq, rg1, rg2, rg3, rg4, rg5, rg6, rg7, rg8, a_raise, k_raise, a_par3, k_par3, a_try, kt_ok, kt_exc, hdl, sEnd, dropN, inR, dRev, a_fz, k_fzL, k_fzF, k_fzT, a_fzS, k_fzS, a_parN, k_parN, allS, setNE, a_gTN, a_fzd, k_fzd, e1, e2, g1, o1, o2]
theorem ll10 (ns : List Int) (a b : Int) (h : Src a b) (n e : Int) (o4 o5 o6 o7 o8 o9 : Option D) : ∃ τ, LL_10 (ln54 ns a b n e o4 o5 o6 o7 o8 o9) = .ok (.rt (.bl true), τ) := by
  obtain ⟨a1, b1, s1, e1⟩ := c_refusals a b h
  obtain ⟨a2, b2, s2, e2⟩ := c_refusals a1 b1 s1
  refine ⟨ln54 ns a2 b2 n e o4 o5 o6 o7 o8 o9, ?_⟩
  unfold ln54
  generalize D.frl (ns.map D.int) = FL at *
  unfold LL_10
  have all := And.intro e1 e2
  clear e1 e2
  revert all
  refine gen1 F__law_refusals_right ?_; intro f1
  rintro ⟨e1, e2⟩
  simp [b_ok, b_stuck, b_exc, a_def, f_ok, f_exc, k_rt, k_nx, a_do, a_set, a_set2, a_drop, a_ret, a_unp, a_seq, k_seq, k_seqr, k_seqb, k_seqc, a_op, k_op, a_c, a_var, a_b, k_b, a_then, k_and1, k_and0, k_or1, k_or0, k_andV1, k_andV0, k_orV1, k_orV0, k_if1, k_if0, k_ifS1, k_ifS0, k_ifT1, k_ifT0, k_notV, k_not, a_yes, a_no, a_next, a_never, a_par, k_par, a_for, k_for, a_i1, k_i1, a_io, k_io, a_call, k_call, a_callP, k_callP, a_chain, k_chain, a_mut, k_mut, a_sto, k_sto, a_lc, k_lc, a_new, a_gN, a_gT, d_lt, d_le, d_gt, d_ge, d_intB, ev, rds, chk, pAny, pTup, pInt, takeA, wbE, permL, padE, outE, gNs, own_int, own_bl, own_str, own_non, own_tup, own_ins, own_frl, own_lst, own_dic, dTup, dLst, dAdd, dSub, dMulS, dDiv, dMod, dNeg, dInt, dAbs, dIsN, dNotN, D.isNon, dLen, dItems, dIx, dTru, D.tru, D.seq, fSetL, fAppend, sizeLine_eq, rg1, rg2, rg3, rg4, rg5, rg6, rg7, rg8, a_raise, k_raise, a_par3, k_par3, a_try, kt_ok, kt_exc, hdl, sEnd, dropN, inR, dRev, a_fz, k_fzL, k_fzF, k_fzT, a_fzS, k_fzS, a_parN, k_parN, allS, setNE, a_gTN, a_fzd, k_fzd, e1, e2]
theorem law_true (ns : List Int) (hn : ns.length ≤ 63) : ∃ τ, F_law [some (.frl (ns.map .int))] = .ok (.bl true, τ) := by
  obtain ⟨a0, b0, s0, e0⟩ := e_lpool ns 0 (by omega)
  replace e0 : F__law_pool [some (.frl (ns.map .int)), some (.int 0)] = _ := e0
  obtain ⟨a2, b2, n, e, s2, hn1, he, e2⟩ := ll2 ns a0 b0 s0
  have e3 := ll3 ns a2 b2 n e hn1 he
  obtain ⟨a4, b4, n4, s4, hn4, e4⟩ := ll4 ns a2 b2 s2 (n : Nat) e
  have e5 := ll5 ns a4 b4 n4 e hn4 he
  have e6 := ll6 ns a4 b4 n4 e hn4 he (some (.tup (whole.map .int)))
  obtain ⟨a7, b7, l, m, s7, hl, ll, hm, e7⟩ := ll7 ns a4 b4 s4 (n4 : Nat) e (some (.tup (whole.map .int))) (some (.int (ccZ whB n4 e))) (some (.int (ccZ yesB n4 e)))
  have e8 := ll8 ns a7 b7 (n4 : Nat) e (some (.tup (whole.map .int))) (some (.int (ccZ whB n4 e))) (some (.int (ccZ yesB n4 e))) l m ll
  have e9 := ll9 ns a7 b7 n4 e hn4 he (some (.tup (whole.map .int))) (some (.int (ccZ whB n4 e))) (some (.int (ccZ yesB n4 e))) (some (.int m)) l m hl hm
  obtain ⟨τ, e10⟩ := ll10 ns a7 b7 s7 (n4 : Nat) e (some (.tup (whole.map .int))) (some (.int (ccZ whB n4 e))) (some (.int (ccZ yesB n4 e))) (some (.tup (l.map .int))) (some (.int m)) (some (.tup ((wider l m).map .int)))
  have e1 : LL_1 [some (.frl (ns.map .int)), none, none, none, none, none, none, none, none, none, none] = .ok (.nx, [some (.frl (ns.map .int)), some (src a0 b0), none, none, none, none, none, none, none, none, none]) := by
    unfold LL_1
    revert e0
    refine gen1 F__law_pool ?_; intro f1
    rintro e0
    simp [b_ok, b_stuck, b_exc, a_def, f_ok, f_exc, k_rt, k_nx, a_do, a_set, a_set2, a_drop, a_ret, a_unp, a_seq, k_seq, k_seqr, k_seqb, k_seqc, a_op, k_op, a_c, a_var, a_b, k_b, a_then, k_and1, k_and0, k_or1, k_or0, k_andV1, k_andV0, k_orV1, k_orV0, k_if1, k_if0, k_ifS1, k_ifS0, k_ifT1, k_ifT0, k_notV, k_not, a_yes, a_no, a_next, a_never, a_par, k_par, a_for, k_for, a_i1, k_i1, a_io, k_io, a_call, k_call, a_callP, k_callP, a_chain, k_chain, a_mut, k_mut, a_sto, k_sto, a_lc, k_lc, a_new, a_gN, a_gT, d_lt, d_le, d_gt, d_ge, d_intB, ev, rds, chk, pAny, pTup, pInt, takeA, wbE, permL, padE, outE, gNs, own_int, own_bl, own_str, own_non, own_tup, own_ins, own_frl, own_lst, own_dic, dTup, dLst, dAdd, dSub, dMulS, dDiv, dMod, dNeg, dInt, dAbs, dIsN, dNotN, D.isNon, dLen, dItems, dIx, dTru, D.tru, D.seq, fSetL, fAppend, sizeLine_eq, rg1, rg2, rg3, rg4, rg5, rg6, rg7, rg8, a_raise, k_raise, a_par3, k_par3, a_try, kt_ok, kt_exc, hdl, sEnd, dropN, inR, dRev, a_fz, k_fzL, k_fzF, k_fzT, a_fzS, k_fzS, a_parN, k_parN, allS, setNE, a_gTN, a_fzd, k_fzd, e0]
  refine ⟨[τ[0]?.join], ?_⟩
  show mDef 11 1 [1, 2, 3, 2, 4, 5, 6, 7, 8, 9] m_law _ = _
  rw [LL_all]
  clear hl ll hm e0
  have all := And.intro e1 <| And.intro e2 <| And.intro e3 <| And.intro e4 <| And.intro e5 <| And.intro e6 <| And.intro e7 <| And.intro e8 <| And.intro e9 e10
  clear e1 e2 e3 e4 e5 e6 e7 e8 e9 e10
  revert all
  refine gen1 LL_1 ?_; intro f1
  refine gen1 LL_2 ?_; intro f2
  refine gen1 LL_3 ?_; intro f3
  refine gen1 LL_4 ?_; intro f4
  refine gen1 LL_5 ?_; intro f5
  refine gen1 LL_6 ?_; intro f6
  refine gen1 LL_7 ?_; intro f7
  refine gen1 LL_8 ?_; intro f8
  refine gen1 LL_9 ?_; intro f9
  refine gen1 LL_10 ?_; intro f10
  rintro ⟨e1, e2, e3, e4, e5, e6, e7, e8, e9, e10⟩
  simp [b_ok, b_stuck, b_exc, a_def, f_ok, f_exc, k_rt, k_nx, a_do, a_set, a_set2, a_drop, a_ret, a_unp, a_seq, k_seq, k_seqr, k_seqb, k_seqc, a_op, k_op, a_c, a_var, a_b, k_b, a_then, k_and1, k_and0, k_or1, k_or0, k_andV1, k_andV0, k_orV1, k_orV0, k_if1, k_if0, k_ifS1, k_ifS0, k_ifT1, k_ifT0, k_notV, k_not, a_yes, a_no, a_next, a_never, a_par, k_par, a_for, k_for, a_i1, k_i1, a_io, k_io, a_call, k_call, a_callP, k_callP, a_chain, k_chain, a_mut, k_mut, a_sto, k_sto, a_lc, k_lc, a_new, a_gN, a_gT, d_lt, d_le, d_gt, d_ge, d_intB, ev, rds, chk, pAny, pTup, pInt, takeA, wbE, permL, padE, outE, gNs, own_int, own_bl, own_str, own_non, own_tup, own_ins, own_frl, own_lst, own_dic, dTup, dLst, dAdd, dSub, dMulS, dDiv, dMod, dNeg, dInt, dAbs, dIsN, dNotN, D.isNon, dLen, dItems, dIx, dTru, D.tru, D.seq, fSetL, fAppend, sizeLine_eq, rg1, rg2, rg3, rg4, rg5, rg6, rg7, rg8, a_raise, k_raise, a_par3, k_par3, a_try, kt_ok, kt_exc, hdl, sEnd, dropN, inR, dRev, a_fz, k_fzL, k_fzF, k_fzT, a_fzS, k_fzS, a_parN, k_parN, allS, setNE, a_gTN, a_fzd, k_fzd, e1, e2, e3, e4, e5, e6, e7, e8, e9, e10]
end K54
open PySem PySem.W PyProof.Rows
set_option maxHeartbeats 0 in
theorem PySem.Challenge.cw_turnedvalleys_k54_classes_counted_at_bot_holds : PySem.Challenge.rw_turnedvalleys_k54_classes_counted_at_bot.Holds := by
  w_on; o_law; k_head; (case hw => w_witness2)
  k_fill
  refine TV.walkT (l := PySem.Challenge.rw_turnedvalleys_k54_classes_counted_at_bot) (k := 7) (x := "_law_script") rfl rfl ⟨⟨rfl, by decide, by decide⟩, rfl⟩ (fun w h Y => PySem.W.km_in_of Y) ?F
  case F =>
    intro w mg fa h Y KX G hmg
    refine' K54.all_mk KX G hmg ?n_enumerate ?n_int ?n_isinstance ?n_len ?n_list ?n_max ?n_range ?n_repr ?n_sorted ?n_sum ?n_tuple ?c_BOTH_WALLS ?c_LEAST_LENGTH ?c_MOST_COUNTED ?c_MOST_STONES ?g_comb ?aC_Refused ?aC_BadSize ?aC_BadEnds ?aC_BadRule ?xL_Refused ?xsa_Refused ?xga_Refused ?xgg_Refused ?xnb_Refused ?xin_Refused ?xkc_Refused ?xL_BadSize ?xsa_BadSize ?xga_BadSize ?xgg_BadSize ?xnb_BadSize ?xin_BadSize ?xkc_BadSize ?xne_BadSize ?xL_BadEnds ?xsa_BadEnds ?xga_BadEnds ?xgg_BadEnds ?xnb_BadEnds ?xin_BadEnds ?xkc_BadEnds ?xne_BadEnds ?xL_BadRule ?xsa_BadRule ?xga_BadRule ?xgg_BadRule ?xnb_BadRule ?xin_BadRule ?xkc_BadRule ?xne_BadRule ?r_t ?r_l ?r_c ?r_lc ?r_f ?r_pf ?r_cell ?r_sup ?r_opq ?r_top ?xs_BadSize_Refused ?xs_BadEnds_Refused ?xs_BadRule_Refused ?xcn ?xct ?xca_BadSize ?xcm_BadSize ?xkv_BadSize ?xs_BadSize_BadEnds ?xd_BadSize_BadEnds ?xs_BadSize_BadRule ?xd_BadSize_BadRule ?xs_BadSize_BadSize ?xca_BadEnds ?xcm_BadEnds ?xkv_BadEnds ?xs_BadEnds_BadEnds ?xs_BadEnds_BadRule ?xd_BadEnds_BadRule ?xs_BadEnds_BadSize ?xd_BadEnds_BadSize ?xca_BadRule ?xcm_BadRule ?xkv_BadRule ?xs_BadRule_BadEnds ?xd_BadRule_BadEnds ?xs_BadRule_BadRule ?xs_BadRule_BadSize ?xd_BadRule_BadSize ?a__law_pool ?l__law_pool ?d__law_pool ?e__law_pool ?a__law_take ?l__law_take ?d__law_take ?e__law_take ?a__law_one ?l__law_one ?d__law_one ?e__law_one ?a_want_ends ?l_want_ends ?d_want_ends ?e_want_ends ?a_want_rule ?l_want_rule ?d_want_rule ?e_want_rule ?a_lets ?l_lets ?d_lets ?e_lets ?a_ways ?l_ways ?d_ways ?e_ways ?a_inner_counts ?l_inner_counts ?d_inner_counts ?e_inner_counts ?a_end_counts ?l_end_counts ?d_end_counts ?e_end_counts ?a_class_count ?l_class_count ?d_class_count ?e_class_count ?w_class_count_ends_ ?w_class_count_rule_ ?a__law_lengths ?l__law_lengths ?d__law_lengths ?e__law_lengths ?a__law_word ?l__law_word ?d__law_word ?e__law_word ?a__law_told ?l__law_told ?d__law_told ?e__law_told ?a__law_refusals_right ?l__law_refusals_right ?d__law_refusals_right ?e__law_refusals_right ?yr__law_refusals_right ?yc__law_refusals_right ?yl__law_refusals_right ?yn__law_refusals_right ?a__law_product ?l__law_product ?d__law_product ?e__law_product ?a_law ?l_law ?d_law ?e_law ?tbh K54.law_true
    (case n_enumerate => k_is); (case n_int => k_is); (case n_isinstance => k_is); (case n_len => k_is); (case n_list => k_is); (case n_max => k_is); (case n_range => k_is); (case n_repr => k_is); (case n_sorted => k_is); (case n_sum => k_is); (case n_tuple => k_is); (case c_BOTH_WALLS => k_is); (case c_LEAST_LENGTH => k_is); (case c_MOST_COUNTED => k_is); (case c_MOST_STONES => k_is); (case g_comb => k_is); (case aC_Refused => k_is); (case aC_BadSize => k_is); (case aC_BadEnds => k_is); (case aC_BadRule => k_is); (case xL_Refused => k_is); (case xsa_Refused => k_is); (case xga_Refused => k_is); (case xgg_Refused => k_is); (case xnb_Refused => k_is); (case xin_Refused => k_is); (case xkc_Refused => k_is); (case xL_BadSize => k_is); (case xsa_BadSize => k_is); (case xga_BadSize => k_is); (case xgg_BadSize => k_is); (case xnb_BadSize => k_is); (case xin_BadSize => k_is); (case xkc_BadSize => k_is); (case xne_BadSize => decide); (case xL_BadEnds => k_is); (case xsa_BadEnds => k_is); (case xga_BadEnds => k_is); (case xgg_BadEnds => k_is); (case xnb_BadEnds => k_is); (case xin_BadEnds => k_is); (case xkc_BadEnds => k_is); (case xne_BadEnds => decide); (case xL_BadRule => k_is); (case xsa_BadRule => k_is); (case xga_BadRule => k_is); (case xgg_BadRule => k_is); (case xnb_BadRule => k_is); (case xin_BadRule => k_is); (case xkc_BadRule => k_is); (case xne_BadRule => decide); (case r_t => k_is); (case r_l => k_is); (case r_c => k_is); (case r_lc => k_is); (case r_f => rfl); (case r_pf => (first | rfl | decide +kernel)); (case r_cell => k_is); (case r_sup => k_is); (case r_opq => k_is); (case r_top => (first | rfl | decide +kernel)); (case xs_BadSize_Refused => k_is); (case xs_BadEnds_Refused => k_is); (case xs_BadRule_Refused => k_is); (case xcn => k_is); (case xct => k_is); (case xca_BadSize => k_is); (case xcm_BadSize => k_is); (case xkv_BadSize => k_is); (case xs_BadSize_BadEnds => k_is); (case xd_BadSize_BadEnds => decide); (case xs_BadSize_BadRule => k_is); (case xd_BadSize_BadRule => decide); (case xs_BadSize_BadSize => k_is); (case xca_BadEnds => k_is); (case xcm_BadEnds => k_is); (case xkv_BadEnds => k_is); (case xs_BadEnds_BadEnds => k_is); (case xs_BadEnds_BadRule => k_is); (case xd_BadEnds_BadRule => decide); (case xs_BadEnds_BadSize => k_is); (case xd_BadEnds_BadSize => decide); (case xca_BadRule => k_is); (case xcm_BadRule => k_is); (case xkv_BadRule => k_is); (case xs_BadRule_BadEnds => k_is); (case xd_BadRule_BadEnds => decide); (case xs_BadRule_BadRule => k_is); (case xs_BadRule_BadSize => k_is); (case xd_BadRule_BadSize => decide); (case a__law_pool => k_is); (case l__law_pool => k_is); (case d__law_pool => k_is); (case e__law_pool => k_is); (case a__law_take => k_is); (case l__law_take => k_is); (case d__law_take => k_is); (case e__law_take => k_is); (case a__law_one => k_is); (case l__law_one => k_is); (case d__law_one => k_is); (case e__law_one => k_is); (case a_want_ends => k_is); (case l_want_ends => k_is); (case d_want_ends => k_is); (case e_want_ends => k_is); (case a_want_rule => k_is); (case l_want_rule => k_is); (case d_want_rule => k_is); (case e_want_rule => k_is); (case a_lets => k_is); (case l_lets => k_is); (case d_lets => k_is); (case e_lets => k_is); (case a_ways => k_is); (case l_ways => k_is); (case d_ways => k_is); (case e_ways => k_is); (case a_inner_counts => k_is); (case l_inner_counts => k_is); (case d_inner_counts => k_is); (case e_inner_counts => k_is); (case a_end_counts => k_is); (case l_end_counts => k_is); (case d_end_counts => k_is); (case e_end_counts => k_is); (case a_class_count => k_is); (case l_class_count => k_is); (case d_class_count => k_is); (case e_class_count => k_is); (case w_class_count_ends_ => k_is); (case w_class_count_rule_ => k_is); (case a__law_lengths => k_is); (case l__law_lengths => k_is); (case d__law_lengths => k_is); (case e__law_lengths => k_is); (case a__law_word => k_is); (case l__law_word => k_is); (case d__law_word => k_is); (case e__law_word => k_is); (case a__law_told => k_is); (case l__law_told => k_is); (case d__law_told => k_is); (case e__law_told => k_is); (case a__law_refusals_right => k_is); (case l__law_refusals_right => k_is); (case d__law_refusals_right => k_is); (case e__law_refusals_right => k_is); (case yr__law_refusals_right => rfl); (case yc__law_refusals_right => kernel_rfl); (case yl__law_refusals_right => kernel_rfl); (case yn__law_refusals_right => (first | rfl | decide +kernel | kernel_rfl)); (case a__law_product => k_is); (case l__law_product => k_is); (case d__law_product => k_is); (case e__law_product => k_is); (case a_law => k_is); (case l_law => k_is); (case d_law => k_is); (case e_law => k_is); (case tbh => exact TV.tabs_of (PySem.W.km_tabs_of Y) (by kernel_rfl))
