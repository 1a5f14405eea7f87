import PyProof.Rows.All
import Wide.All
import OpenK.AllK
import Wide.FinOn
import HandS.List
import HandS.Comp
import HandS.Dict
import HandS.Iter
import HandS.Text
import HandS.Words
import HandS.Deep
import HandS.Wide
import HandS.TupAny
import HandS.IsInst
import HandS.DictComp
import HandS.WideBits
import HandS.Defaults
import HandS.Style
import HandS.EndBits
import HandS.SortRule
import KE.SortData
import KE.KDictSum
import HandS.More
import PyProof.ReprRoads
import PyProof.ReprLen
import HandS.Set
import HandS.Strs
import HandS.Zip
import KE.KDictZip
import KE.KEqDict
import KE.DataMinMax
import HandS.SortKw
import HandS.ListItems
import PyProof.Rows.RegStrFacts
import PySem.Challenge.RW_relabelsteps_k14_labels_lost
set_option Elab.async false
set_option linter.all false
set_option maxRecDepth 100000
/-! the value layer: data, states, what a value stands for -/
namespace Vl
open PySem PySem.Spec L2
open PyProof.Rows hiding St

/-- a value, its parts within -/
inductive D where
  | non | bl (b : Bool) | int (i : Int) | str (x : Str)
  | lst (xs : List D) | tup (xs : List D) | dic (kvs : List (Key × D))
  | loc (n : Nat) | raw (v : V)
/-- a container that may be changed -/
inductive C where
  | lst (xs : List D) | dic (kvs : List (Key × D))
def C.toD : C → D
  | .lst xs => .lst xs
  | .dic kvs => .dic kvs
/-- a slot -/
inductive SV where
  | no | val (d : D) | own (c : C)
/-- the state of a def: its slots, the cells -/
structure SS where
  r : List SV
  S : List C
/-- where things stand: the heap of what stays, the cells' places, the own slots' places -/
structure Wd where
  F : Hp
  cs : List Addr
  os : Nat → Addr

mutual
def Rep (w : Wd) : D → V → Prop
  | .non, v => v = .non
  | .bl b, v => v = .bl b
  | .int i, v => v = .int i
  | .str x, v => v = .str x
  | .lst ds, v => ∃ a vs, v = .ref a ∧ w.F a = some (.lst vs) ∧ RepL w ds vs
  | .tup ds, v => ∃ a vs, v = .ref a ∧ w.F a = some (.tup vs) ∧ RepL w ds vs
  | .dic kvs, v => ∃ a kws, v = .ref a ∧ w.F a = some (.dK kws) ∧ RepK w kvs kws
  | .loc n, v => ∃ a, v = .ref a ∧ w.cs[n]? = some a
  | .raw u, v => v = u
def RepL (w : Wd) : List D → List V → Prop
  | [], vs => vs = []
  | d :: ds, vs => ∃ v us, vs = v :: us ∧ Rep w d v ∧ RepL w ds us
def RepK (w : Wd) : List (Key × D) → List (Key × V) → Prop
  | [], vs => vs = []
  | (k, d) :: ds, vs => ∃ v us, vs = (k, v) :: us ∧ Rep w d v ∧ RepK w ds us
end

/-- nothing that was known is lost -/
structure Ext (w w' : Wd) : Prop where
  F : ∀ (a : Addr) (u : HO), w.F a = some u → w'.F a = some u
  cs : ∀ (n : Nat) (a : Addr), w.cs[n]? = some a → w'.cs[n]? = some a
theorem Ext.refl (w : Wd) : Ext w w := ⟨fun _ _ h => h, fun _ _ h => h⟩
theorem Ext.trans {w1 w2 w3 : Wd} (a : Ext w1 w2) (b : Ext w2 w3) : Ext w1 w3 := ⟨fun x u h => b.F x u (a.F x u h), fun n x h => b.cs n x (a.cs n x h)⟩

mutual
theorem Rep.ext {w w' : Wd} (e : Ext w w') : ∀ (d : D) (v : V), Rep w d v → Rep w' d v
  | .non, _, h => h
  | .bl _, _, h => h
  | .int _, _, h => h
  | .str _, _, h => h
  | .lst ds, _, ⟨a, vs, e1, e2, h⟩ => ⟨a, vs, e1, e.F _ _ e2, RepL.ext e ds vs h⟩
  | .tup ds, _, ⟨a, vs, e1, e2, h⟩ => ⟨a, vs, e1, e.F _ _ e2, RepL.ext e ds vs h⟩
  | .dic ds, _, ⟨a, vs, e1, e2, h⟩ => ⟨a, vs, e1, e.F _ _ e2, RepK.ext e ds vs h⟩
  | .loc n, _, ⟨a, e1, e2⟩ => ⟨a, e1, e.cs _ _ e2⟩
  | .raw _, _, h => h
theorem RepL.ext {w w' : Wd} (e : Ext w w') : ∀ (ds : List D) (vs : List V), RepL w ds vs → RepL w' ds vs
  | [], _, h => h
  | d :: ds, _, ⟨v, us, e1, h1, h2⟩ => ⟨v, us, e1, Rep.ext e d v h1, RepL.ext e ds us h2⟩
theorem RepK.ext {w w' : Wd} (e : Ext w w') : ∀ (ds : List (Key × D)) (vs : List (Key × V)), RepK w ds vs → RepK w' ds vs
  | [], _, h => h
  | (k, d) :: ds, _, ⟨v, us, e1, h1, h2⟩ => ⟨v, us, e1, Rep.ext e d v h1, RepK.ext e ds us h2⟩
end
section
variable {w : Wd}
theorem RepL.length : ∀ {ds : List D} {vs : List V}, RepL w ds vs → vs.length = ds.length
  | [], _, h => by subst h; rfl
  | d :: ds, _, ⟨v, us, e1, h1, h2⟩ => by subst e1; simp [RepL.length h2]
theorem RepL.nil_iff {vs : List V} : RepL w [] vs ↔ vs = [] := Iff.rfl
theorem RepL.cons_iff {d : D} {ds : List D} {vs : List V} : RepL w (d :: ds) vs ↔ ∃ v us, vs = v :: us ∧ Rep w d v ∧ RepL w ds us := Iff.rfl
theorem RepL.append : ∀ {ds es : List D} {vs us : List V}, RepL w ds vs → RepL w es us → RepL w (ds ++ es) (vs ++ us)
  | [], _, _, _, h, h' => by subst h; exact h'
  | d :: ds, _, _, _, ⟨v, ws, e1, h1, h2⟩, h' => by subst e1; exact ⟨v, _, rfl, h1, RepL.append h2 h'⟩
theorem RepL.get : ∀ {ds : List D} {vs : List V} {i : Nat} {d : D}, RepL w ds vs → ds[i]? = some d → ∃ v, vs[i]? = some v ∧ Rep w d v
  | [], _, _, _, _, h => by simp at h
  | d :: ds, _, 0, _, ⟨v, ws, e1, h1, h2⟩, h => by subst e1; simp at h; subst h; exact ⟨v, rfl, h1⟩
  | d :: ds, _, i + 1, _, ⟨v, ws, e1, h1, h2⟩, h => by subst e1; simp at h; obtain ⟨u, e, r⟩ := RepL.get h2 h; exact ⟨u, by simpa using e, r⟩
theorem RepL.getV : ∀ {ds : List D} {vs : List V} {i : Nat} {v : V}, RepL w ds vs → vs[i]? = some v → ∃ d, ds[i]? = some d ∧ Rep w d v
  | [], _, _, _, h, h' => by subst h; simp at h'
  | d :: ds, _, 0, _, ⟨v, ws, e1, h1, h2⟩, h => by subst e1; simp at h; subst h; exact ⟨d, rfl, h1⟩
  | d :: ds, _, i + 1, _, ⟨v, ws, e1, h1, h2⟩, h => by subst e1; simp at h; obtain ⟨u, e, r⟩ := RepL.getV h2 h; exact ⟨u, by simpa using e, r⟩
theorem RepL.take : ∀ (n : Nat) {ds : List D} {vs : List V}, RepL w ds vs → RepL w (ds.take n) (vs.take n)
  | 0, _, _, _ => by simp [RepL]
  | n + 1, [], _, h => by subst h; simp [RepL]
  | n + 1, d :: ds, _, ⟨v, ws, e1, h1, h2⟩ => by subst e1; exact ⟨v, _, rfl, h1, RepL.take n h2⟩
theorem RepL.drop : ∀ (n : Nat) {ds : List D} {vs : List V}, RepL w ds vs → RepL w (ds.drop n) (vs.drop n)
  | 0, _, _, h => h
  | n + 1, [], _, h => by subst h; simp [RepL]
  | n + 1, d :: ds, _, ⟨v, ws, e1, h1, h2⟩ => by subst e1; exact RepL.drop n h2
theorem RepL.set : ∀ (n : Nat) {ds : List D} {vs : List V} {d : D} {v : V}, RepL w ds vs → Rep w d v → RepL w (ds.set n d) (vs.set n v)
  | _, [], _, _, _, h, _ => by subst h; simp [RepL]
  | 0, d :: ds, _, _, _, ⟨v, ws, e1, h1, h2⟩, h => by subst e1; exact ⟨_, _, rfl, h, h2⟩
  | n + 1, d :: ds, _, _, _, ⟨v, ws, e1, h1, h2⟩, h => by subst e1; exact ⟨_, _, rfl, h1, RepL.set n h2 h⟩
theorem RepL.reverse : ∀ {ds : List D} {vs : List V}, RepL w ds vs → RepL w ds.reverse vs.reverse
  | [], _, h => by subst h; simp [RepL]
  | d :: ds, _, ⟨v, ws, e1, h1, h2⟩ => by
    subst e1
    rw [List.reverse_cons, List.reverse_cons]
    exact (RepL.reverse h2).append ⟨v, [], rfl, h1, rfl⟩
theorem RepL.ints : ∀ {ns : List Int} {vs : List V}, RepL w (ns.map D.int) vs → vs = ns.map V.int
  | [], _, h => h
  | n :: ns, _, ⟨v, us, e1, h1, h2⟩ => by subst e1; rw [List.map_cons, RepL.ints h2]; exact congrArg (· :: _) h1
theorem RepL.strs : ∀ {ns : List Str} {vs : List V}, RepL w (ns.map D.str) vs → vs = ns.map V.str
  | [], _, h => h
  | n :: ns, _, ⟨v, us, e1, h1, h2⟩ => by subst e1; rw [List.map_cons, RepL.strs h2]; exact congrArg (· :: _) h1
theorem RepL.of_ints : ∀ (ns : List Int), RepL w (ns.map D.int) (ns.map V.int)
  | [] => rfl
  | n :: ns => ⟨_, _, rfl, rfl, RepL.of_ints ns⟩
theorem RepL.of_strs : ∀ (ns : List Str), RepL w (ns.map D.str) (ns.map V.str)
  | [] => rfl
  | n :: ns => ⟨_, _, rfl, rfl, RepL.of_strs ns⟩
theorem RepK.length : ∀ {ds : List (Key × D)} {vs : List (Key × V)}, RepK w ds vs → vs.length = ds.length
  | [], _, h => by subst h; rfl
  | (k, d) :: ds, _, ⟨v, us, e1, h1, h2⟩ => by subst e1; simp [RepK.length h2]
theorem RepK.keys : ∀ {ds : List (Key × D)} {vs : List (Key × V)}, RepK w ds vs → vs.map (·.1) = ds.map (·.1)
  | [], _, h => by subst h; rfl
  | (k, d) :: ds, _, ⟨v, us, e1, h1, h2⟩ => by subst e1; simp [RepK.keys h2]
end
end Vl
namespace Vl
open PySem PySem.Spec L2
open PyProof.Rows hiding St

/-- what an expression gives: a datum; what an own slot holds; a new container -/
inductive Re where
  | val (d : D) | slo (i : Nat) | new (c : C)

def Cel (w : Wd) (H : Hp) (a : Addr) : C → Prop
  | .lst xs => ∃ vs, H a = some (.lst vs) ∧ RepL w xs vs
  | .dic kvs => ∃ kws, H a = some (.dK kws) ∧ RepK w kvs kws
theorem Cel.ext {w w' : Wd} {H H' : Hp} {a : Addr} {c : C} (e : Ext w w') (h : H' a = H a) (x : Cel w H a c) : Cel w' H' a c := by
  cases c with
  | lst xs => obtain ⟨vs, e1, r⟩ := x; exact ⟨vs, h.trans e1, r.ext e⟩
  | dic kvs => obtain ⟨vs, e1, r⟩ := x; exact ⟨vs, h.trans e1, r.ext e⟩
theorem Cel.there {w : Wd} {H : Hp} {a : Addr} {c : C} (x : Cel w H a c) : ∃ o, H a = some o := by
  cases c with
  | lst xs => obtain ⟨vs, e1, r⟩ := x; exact ⟨_, e1⟩
  | dic kvs => obtain ⟨vs, e1, r⟩ := x; exact ⟨_, e1⟩

/-- B: what stands and stays; R: what is kept apart -/
structure Ok (B : Hp) (R : Addr → Prop) (w : Wd) (σ : St) (H : Hp) (ss : SS) : Prop where
  le : ∀ (a : Addr) (u : HO), w.F a = some u → Rd H a u
  bs : ∀ (b : Addr) (o : HO), B b = some o → H b = some o
  rs : ∀ a : Addr, R a → w.F a = none ∧ a ∉ w.cs ∧ ∃ o, H a = some o
  vl : ∀ (i : Nat) (d : D), ss.r[i]? = some (.val d) → ∃ v, σ[i]? = some (some v) ∧ Rep w d v
  ow : ∀ (i : Nat) (c : C), ss.r[i]? = some (.own c) → σ[i]? = some (some (.ref (w.os i))) ∧ Cel w H (w.os i) c ∧ w.F (w.os i) = none ∧ B (w.os i) = none ∧ ¬ R (w.os i) ∧ w.os i ∉ w.cs
  oi : ∀ (i j : Nat) (c c' : C), ss.r[i]? = some (.own c) → ss.r[j]? = some (.own c') → w.os i = w.os j → i = j
  ce : ∀ (n : Nat) (c : C), ss.S[n]? = some c → ∃ a, w.cs[n]? = some a ∧ Cel w H a c
  cl : w.cs.length = ss.S.length
  cf : ∀ a ∈ w.cs, w.F a = none ∧ B a = none
  cn : w.cs.Nodup
  ln : ss.r.length = σ.length

/-- what a result stands for -/
def RepR (B : Hp) (R : Addr → Prop) (w : Wd) (σ : St) (H : Hp) (ss : SS) : Re → V → Prop
  | .val d, v => Rep w d v
  | .slo i, v => σ[i]? = some (some v)
  | .new c, v => ∃ p, v = .ref p ∧ Cel w H p c ∧ w.F p = none ∧ B p = none ∧ ¬ R p ∧ p ∉ w.cs ∧ ∀ (i : Nat) (c' : C), ss.r[i]? = some (.own c') → w.os i ≠ p

section
variable {B : Hp} {R : Addr → Prop} {w : Wd} {σ : St} {H : Hp} {ss : SS}
theorem rd_some {H : Hp} {a : Addr} {u : HO} (h : Rd H a u) : ∃ o, H a = some o := by
  rcases h with h | ⟨o, h⟩
  · exact ⟨_, h⟩
  · exact ⟨_, h⟩
theorem Ok.fresh (o : Ok B R w σ H ss) {p : Addr} (h : H p = none) : w.F p = none ∧ B p = none ∧ ¬ R p ∧ p ∉ w.cs ∧ ∀ (i : Nat) (c' : C), ss.r[i]? = some (.own c') → w.os i ≠ p := by
  refine ⟨?_, ?_, fun r => ?_, fun m => ?_, fun i c' e z => ?_⟩
  · cases q : w.F p with
    | none => rfl
    | some u => obtain ⟨x, hx⟩ := rd_some (o.le p u q); rw [h] at hx; cases hx
  · cases q : B p with
    | none => rfl
    | some u => have := o.bs p u q; rw [h] at this; cases this
  · obtain ⟨_, _, x, hx⟩ := o.rs p r; rw [h] at hx; cases hx
  · obtain ⟨n, hn, e⟩ := List.getElem_of_mem m
    have hs : n < ss.S.length := by rw [← o.cl]; exact hn
    obtain ⟨a, ha, cc⟩ := o.ce n ss.S[n] (List.getElem?_eq_getElem hs)
    rw [List.getElem?_eq_getElem hn] at ha
    have : a = p := by rw [← e]; exact (Option.some.inj ha).symm
    subst this
    obtain ⟨x, hx⟩ := cc.there
    rw [h] at hx; cases hx
  · obtain ⟨_, cc, _⟩ := o.ow i c' e
    rw [z] at cc
    obtain ⟨x, hx⟩ := cc.there
    rw [h] at hx; cases hx
/-- a heap that has grown by new objects -/
theorem Ok.grow (o : Ok B R w σ H ss) {H' : Hp} (k : ∀ b u, H b = some u → H' b = some u) : Ok B R w σ H' ss := by
  have ks : ∀ {a : Addr} {c : C}, Cel w H a c → Cel w H' a c := fun {a c} x => by
    obtain ⟨u, hu⟩ := x.there
    exact x.ext (Ext.refl w) (by rw [hu]; exact k _ _ hu)
  refine ⟨fun a u h => ?_, fun b u h => k _ _ (o.bs b u h), fun a r => ?_, o.vl, fun i c e => ?_, o.oi, fun n c e => ?_, o.cl, o.cf, o.cn, o.ln⟩
  · rcases o.le a u h with z | ⟨x, z⟩
    · exact .inl (k _ _ z)
    · exact .inr ⟨x, k _ _ z⟩
  · obtain ⟨a1, a2, x, hx⟩ := o.rs a r
    exact ⟨a1, a2, x, k _ _ hx⟩
  · obtain ⟨a1, a2, a3⟩ := o.ow i c e
    exact ⟨a1, ks a2, a3⟩
  · obtain ⟨a, a1, a2⟩ := o.ce n c e
    exact ⟨a, a1, ks a2⟩
theorem ndl {l : List Addr} (h : l.Nodup) {i j : Nat} {a : Addr} (h1 : l[i]? = some a) (h2 : l[j]? = some a) : i = j := by
  obtain ⟨a1, e1⟩ := List.getElem?_eq_some_iff.mp h1
  obtain ⟨a2, e2⟩ := List.getElem?_eq_some_iff.mp h2
  exact (List.getElem_inj h).mp (e1.trans e2.symm)

def frzF (w : Wd) (a : Addr) (u : HO) : Wd := { w with F := upd w.F a u }
theorem frzF.ext {w : Wd} {a : Addr} {u : HO} (h : w.F a = none) : Ext w (frzF w a u) := ⟨fun b x e => by
  show upd w.F a u b = some x
  rw [upd_ne (fun z => by rw [z, h] at e; cases e)]; exact e, fun _ _ e => e⟩
theorem Cel.rep {a : Addr} {c : C} (h : w.F a = none) (x : Cel w H a c) : ∃ u, H a = some u ∧ Rep (frzF w a u) c.toD (.ref a) := by
  cases c with
  | lst xs =>
    obtain ⟨vs, e, r⟩ := x
    exact ⟨_, e, a, vs, rfl, upd_same, r.ext (frzF.ext h)⟩
  | dic kvs =>
    obtain ⟨vs, e, r⟩ := x
    exact ⟨_, e, a, vs, rfl, upd_same, r.ext (frzF.ext h)⟩
/-- a thing at a, nobody's, is known from here on -/
theorem Ok.frz (o : Ok B R w σ H ss) {a : Addr} {u : HO} (hu : H a = some u) (hF : w.F a = none) (hR : ¬ R a) (hc : a ∉ w.cs) (hi : ∀ (i : Nat) (c' : C), ss.r[i]? = some (.own c') → w.os i ≠ a) : Ok B R (frzF w a u) σ H ss := by
  have e := frzF.ext (u := u) hF
  refine ⟨fun b x h => ?_, o.bs, fun b r => ?_, fun i d h => ?_, fun i c h => ?_, o.oi, fun n c h => ?_, o.cl, fun b h => ?_, o.cn, o.ln⟩
  · by_cases q : b = a
    · subst q
      have h : upd w.F b u b = some x := h
      rw [upd_same] at h; cases h; exact .inl hu
    · have h : upd w.F a u b = some x := h
      rw [upd_ne q] at h; exact o.le b x h
  · obtain ⟨a1, a2, a3⟩ := o.rs b r
    exact ⟨by show upd w.F a u b = none; rw [upd_ne (fun z : b = a => hR (z ▸ r))]; exact a1, a2, a3⟩
  · obtain ⟨v, a1, a2⟩ := o.vl i d h
    exact ⟨v, a1, a2.ext e⟩
  · obtain ⟨a1, a2, a3, a4⟩ := o.ow i c h
    exact ⟨a1, a2.ext e rfl, by show upd w.F a u (w.os i) = none; rw [upd_ne (hi i c h)]; exact a3, a4⟩
  · obtain ⟨b, a1, a2⟩ := o.ce n c h
    exact ⟨b, a1, a2.ext e rfl⟩
  · obtain ⟨a1, a2⟩ := o.cf b h
    exact ⟨by show upd w.F a u b = none; rw [upd_ne (fun z : b = a => hc (z ▸ h))]; exact a1, a2⟩
/-- slots may be forgotten or turn from own to known, the state's list changes -/
theorem Ok.slots (o : Ok B R w σ H ss) {r' : List SV} {σ' : St} (hl : r'.length = σ'.length) (hv : ∀ (i : Nat) (d : D), r'[i]? = some (.val d) → ∃ v, σ'[i]? = some (some v) ∧ Rep w d v)
    (ho : ∀ (i : Nat) (c : C), r'[i]? = some (.own c) → ss.r[i]? = some (.own c) ∧ σ'[i]? = σ[i]?) : Ok B R w σ' H { ss with r := r' } :=
  ⟨o.le, o.bs, o.rs, hv, fun i c h => by
    obtain ⟨h1, h2⟩ := ho i c h
    obtain ⟨a1, a2⟩ := o.ow i c h1
    exact ⟨h2.trans a1, a2⟩, fun i j c c' h h' => o.oi i j c c' (ho i c h).1 (ho j c' h').1, o.ce, o.cl, o.cf, o.cn, hl⟩
theorem set_get {α : Type} {l : List α} {i j : Nat} {x y : α} (h : (l.set i x)[j]? = some y) : (j = i ∧ y = x ∧ i < l.length) ∨ (j ≠ i ∧ l[j]? = some y) := by
  by_cases e : i = j
  · subst e
    by_cases q : i < l.length
    · rw [List.getElem?_set_self q] at h; cases h; exact .inl ⟨rfl, rfl, q⟩
    · rw [List.getElem?_eq_none (by simpa using q)] at h; cases h
  · rw [List.getElem?_set_ne e] at h
    exact .inr ⟨fun z => e z.symm, h⟩
theorem Ok.lt (o : Ok B R w σ H ss) {i : Nat} {x : SV} (h : ss.r[i]? = some x) : i < σ.length := by rw [← o.ln]; exact (List.getElem?_eq_some_iff.mp h).1

/-- a result turned into a datum -/
def fz (r : Re) (ss : SS) (k : D → SS → Prop) : Prop :=
  match r with
  | .val d => k d ss
  | .new c => k c.toD ss
  | .slo i => match ss.r[i]? with
    | some (.own c) => k c.toD { ss with r := ss.r.set i (.val c.toD) }
    | some (.val d) => k d ss
    | _ => False
theorem fz_ok (o : Ok B R w σ H ss) {r : Re} {v : V} (h : RepR B R w σ H ss r v) {k : D → SS → Prop} (hk : fz r ss k) : ∃ d ss' w', Ok B R w' σ H ss' ∧ Ext w w' ∧ Rep w' d v ∧ k d ss' := by
  cases r with
  | val d => exact ⟨d, ss, w, o, .refl w, h, hk⟩
  | new c =>
    obtain ⟨p, rfl, x, h1, h2, h3, h4, h5⟩ := h
    obtain ⟨u, hu, rp⟩ := x.rep h1
    exact ⟨_, ss, frzF w p u, o.frz hu h1 h3 h4 h5, frzF.ext h1, rp, hk⟩
  | slo i =>
    have h : σ[i]? = some (some v) := h
    have hk : (match ss.r[i]? with
      | some (.own c) => k c.toD { ss with r := ss.r.set i (.val c.toD) }
      | some (.val d) => k d ss
      | _ => False) := hk
    cases e : ss.r[i]? with
    | none => rw [e] at hk; exact hk.elim
    | some x =>
      rw [e] at hk
      cases x with
      | no => exact hk.elim
      | val d =>
        obtain ⟨v', a1, a2⟩ := o.vl i d e
        rw [h] at a1; cases a1
        exact ⟨d, ss, w, o, .refl w, a2, hk⟩
      | own c =>
        obtain ⟨a1, x, h1, h2, h3, h4⟩ := o.ow i c e
        rw [h] at a1; cases a1
        obtain ⟨u, hu, rp⟩ := x.rep h1
        have ex := frzF.ext (u := u) h1
        -- first the slot is forgotten, then known
        have o1 : Ok B R w σ H { ss with r := ss.r.set i .no } := o.slots (by rw [List.length_set]; exact o.ln) (fun j d q => by
          rcases set_get q with ⟨_, q, _⟩ | ⟨_, q⟩
          · cases q
          · exact o.vl j d q) (fun j c' q => by
          rcases set_get q with ⟨_, q, _⟩ | ⟨_, q⟩
          · cases q
          · exact ⟨q, rfl⟩)
        have o2 := o1.frz hu h1 h3 h4 (fun j c' q z => by
          rcases set_get q with ⟨_, q, _⟩ | ⟨ne, q⟩
          · cases q
          · exact ne (o.oi j i c' c q e z))
        refine ⟨c.toD, { ss with r := ss.r.set i (.val c.toD) }, frzF w (w.os i) u, ?_, ex, rp, hk⟩
        have o3 := o2.slots (r' := ss.r.set i (.val c.toD)) (σ' := σ) (by rw [List.length_set]; exact o.ln) (fun j d q => by
          rcases set_get q with ⟨e1, q, _⟩ | ⟨ne, q⟩
          · cases q; subst e1; exact ⟨_, h, rp⟩
          · obtain ⟨v, b1, b2⟩ := o.vl j d q
            exact ⟨v, b1, b2.ext ex⟩) (fun j c' q => by
          rcases set_get q with ⟨_, q, _⟩ | ⟨ne, q⟩
          · cases q
          · refine ⟨?_, rfl⟩
            show (ss.r.set i .no)[j]? = _
            rw [List.getElem?_set_ne (fun z => ne z.symm)]; exact q)
        exact o3

/-- what a result is at present -/
def vw (r : Re) (ss : SS) (k : D → Prop) : Prop :=
  match r with
  | .val (.loc n) => match ss.S[n]? with
    | some c => k c.toD
    | none => False
  | .val d => k d
  | .new c => k c.toD
  | .slo i => match ss.r[i]? with
    | some (.own c) => k c.toD
    | some (.val (.loc n)) => (match ss.S[n]? with
      | some c => k c.toD
      | none => False)
    | some (.val d) => k d
    | _ => False
/-- .. by its own object and its known parts -/
def RepT (w : Wd) (H : Hp) : D → V → Prop
  | .lst ds, v => ∃ a vs, v = .ref a ∧ Rd H a (.lst vs) ∧ RepL w ds vs
  | .dic ds, v => ∃ a vs, v = .ref a ∧ Rd H a (.dK vs) ∧ RepK w ds vs
  | d, v => Rep w d v
theorem Ok.repT (o : Ok B R w σ H ss) {d : D} {v : V} (h : Rep w d v) : RepT w H d v := by
  cases d with
  | lst ds => obtain ⟨a, vs, e1, e2, r⟩ := h; exact ⟨a, vs, e1, o.le _ _ e2, r⟩
  | dic ds => obtain ⟨a, vs, e1, e2, r⟩ := h; exact ⟨a, vs, e1, o.le _ _ e2, r⟩
  | _ => exact h
theorem Cel.repT {a : Addr} {c : C} (x : Cel w H a c) : RepT w H c.toD (.ref a) := by
  cases c with
  | lst xs => obtain ⟨vs, e, r⟩ := x; exact ⟨a, vs, rfl, .inl e, r⟩
  | dic kvs => obtain ⟨vs, e, r⟩ := x; exact ⟨a, vs, rfl, .inl e, r⟩
theorem vw_val (o : Ok B R w σ H ss) {d : D} {v : V} (h : Rep w d v) {k : D → Prop} (hk : vw (.val d) ss k) : ∃ d', RepT w H d' v ∧ k d' := by
  cases d with
  | loc n =>
    have hk : (match ss.S[n]? with
      | some c => k c.toD
      | none => False) := hk
    cases e : ss.S[n]? with
    | none => rw [e] at hk; exact hk.elim
    | some c =>
      rw [e] at hk
      obtain ⟨a, e1, e2⟩ := h
      obtain ⟨b, b1, b2⟩ := o.ce n c e
      rw [e2] at b1; cases b1
      subst e1
      exact ⟨_, b2.repT, hk⟩
  | non => exact ⟨_, o.repT h, hk⟩
  | bl b => exact ⟨_, o.repT h, hk⟩
  | int i => exact ⟨_, o.repT h, hk⟩
  | str x => exact ⟨_, o.repT h, hk⟩
  | lst xs => exact ⟨_, o.repT h, hk⟩
  | tup xs => exact ⟨_, o.repT h, hk⟩
  | dic kvs => exact ⟨_, o.repT h, hk⟩
  | raw u => exact ⟨_, o.repT h, hk⟩
theorem vw_ok (o : Ok B R w σ H ss) {r : Re} {v : V} (h : RepR B R w σ H ss r v) {k : D → Prop} (hk : vw r ss k) : ∃ d, RepT w H d v ∧ k d := by
  cases r with
  | val d => exact vw_val o h hk
  | new c =>
    obtain ⟨p, rfl, x, _⟩ := h
    exact ⟨_, x.repT, hk⟩
  | slo i =>
    have h : σ[i]? = some (some v) := h
    cases e : ss.r[i]? with
    | none =>
      unfold vw at hk
      simp only [e] at hk
    | some x =>
      cases x with
      | no => unfold vw at hk; simp only [e] at hk
      | own c =>
        unfold vw at hk; simp only [e] at hk
        obtain ⟨a1, x, _⟩ := o.ow i c e
        rw [h] at a1; cases a1
        exact ⟨_, x.repT, hk⟩
      | val d =>
        obtain ⟨v', a1, a2⟩ := o.vl i d e
        rw [h] at a1; cases a1
        refine vw_val o a2 ?_
        cases d with
        | loc n => unfold vw at hk ⊢; simp only [e] at hk; exact hk
        | _ => unfold vw at hk ⊢; simp only [e] at hk; exact hk

/-- a result is held while more is done -/
theorem Ok.hold (o : Ok B R w σ H ss) {r : Re} {v : V} (h : RepR B R w σ H ss r v) : ∃ (B' : Hp) (R' : Addr → Prop), Ok B' R' w σ H ss ∧ (∀ b, B' b = none → B b = none) ∧ (∀ a, R a → R' a) ∧
    ∀ (w2 : Wd) (H2 : Hp) (ss2 : SS), Ok B' R' w2 σ H2 ss2 → Ext w w2 → Ok B R w2 σ H2 ss2 ∧ RepR B R w2 σ H2 ss2 r v := by
  cases r with
  | val d => exact ⟨B, R, o, fun _ h => h, fun _ h => h, fun w2 H2 ss2 o2 e => ⟨o2, h.ext e⟩⟩
  | slo i => exact ⟨B, R, o, fun _ h => h, fun _ h => h, fun w2 H2 ss2 o2 e => ⟨o2, h⟩⟩
  | new c =>
    obtain ⟨p, rfl, x, h1, h2, h3, h4, h5⟩ := h
    obtain ⟨u, hu⟩ := x.there
    refine ⟨upd B p u, fun a => R a ∨ a = p, ⟨o.le, fun b q e => ?_, fun a r => ?_, o.vl, fun i c e => ?_, o.oi, o.ce, o.cl, fun a m => ?_, o.cn, o.ln⟩, fun b z => ?_, fun a r => .inl r, fun w2 H2 ss2 o2 e => ⟨⟨o2.le, fun b q e => ?_, fun a r => o2.rs a (.inl r), o2.vl, fun i c e => ?_, o2.oi, o2.ce, o2.cl, fun a m => ?_, o2.cn, o2.ln⟩, ?_⟩⟩
    · by_cases z : b = p
      · subst z; rw [upd_same] at e; cases e; exact hu
      · rw [upd_ne z] at e; exact o.bs b q e
    · rcases r with r | rfl
      · exact o.rs a r
      · exact ⟨h1, h4, u, hu⟩
    · obtain ⟨a1, a2, a3, a4, a5, a6⟩ := o.ow i c e
      have ne := h5 i c e
      exact ⟨a1, a2, a3, by rw [upd_ne ne]; exact a4, fun z => z.elim a5 ne, a6⟩
    · obtain ⟨a1, a2⟩ := o.cf a m
      exact ⟨a1, by rw [upd_ne (fun z : a = p => h4 (z ▸ m))]; exact a2⟩
    · by_cases q : b = p
      · rw [q, upd_same] at z; cases z
      · rw [upd_ne q] at z; exact z
    · refine o2.bs b q ?_
      rw [upd_ne (fun z => by rw [z, h2] at e; cases e)]; exact e
    · obtain ⟨a1, a2, a3, a4, a5, a6⟩ := o2.ow i c e
      have ne : w2.os i ≠ p := fun z => a5 (.inr z)
      exact ⟨a1, a2, a3, by rw [upd_ne ne] at a4; exact a4, fun z => a5 (.inl z), a6⟩
    · obtain ⟨a1, a2⟩ := o2.cf a m
      refine ⟨a1, ?_⟩
      cases q : B a with
      | none => rfl
      | some x =>
        by_cases z : a = p
        · rw [z, h2] at q; cases q
        · rw [upd_ne z, q] at a2; cases a2
    · obtain ⟨a1, a2, y, hy⟩ := o2.rs p (.inr rfl)
      have hp : H2 p = some u := o2.bs p u upd_same
      refine ⟨p, rfl, x.ext e (hp.trans hu.symm), a1, h2, h3, a2, fun i c' q z => ?_⟩
      obtain ⟨_, _, _, _, a5, _⟩ := o2.ow i c' q
      exact a5 (.inr z)
theorem RepR.weak {B' : Hp} {R' : Addr → Prop} {r : Re} {v : V} (hB : ∀ b, B' b = none → B b = none) (hR : ∀ a, R a → R' a) (h : RepR B' R' w σ H ss r v) : RepR B R w σ H ss r v := by
  cases r with
  | val d => exact h
  | slo i => exact h
  | new c =>
    obtain ⟨p, h0, x0, h1, h2, h3, h4, h5⟩ := h
    exact ⟨p, h0, x0, h1, hB _ h2, fun r => h3 (hR _ r), h4, h5⟩
end
end Vl
namespace Vl
open PySem PySem.Spec L2
open PyProof.Rows hiding St

/-! ### judgements -/
abbrev WE := SS → (Re → SS → Prop) → Prop
abbrev WV := SS → (D → SS → Prop) → Prop
abbrev WT := SS → (Bool → SS → Prop) → Prop
abbrev WA := SS → (List D → SS → Prop) → Prop
def DE (X : Cx) (e : Expr) (f : WE) : Prop := ∃ t, PE X e t ∧ ∀ (B : Hp) (R : Addr → Prop) (w : Wd) (σ : St) (H : Hp) (ss : SS) (G : Re → SS → Prop) (Q : VK), Ok B R w σ H ss → f ss G →
  (∀ v H' r ss' w', Ok B R w' σ H' ss' → RepR B R w' σ H' ss' r v → Ext w w' → G r ss' → Q v H') → t σ H Q
def DV (X : Cx) (e : Expr) (f : WV) : Prop := ∃ t, PE X e t ∧ ∀ (B : Hp) (R : Addr → Prop) (w : Wd) (σ : St) (H : Hp) (ss : SS) (G : D → SS → Prop) (Q : VK), Ok B R w σ H ss → f ss G →
  (∀ v H' d ss' w', Ok B R w' σ H' ss' → Rep w' d v → Ext w w' → G d ss' → Q v H') → t σ H Q
def DT (X : Cx) (e : Expr) (f : WT) : Prop := ∃ t, PT X e t ∧ ∀ (B : Hp) (R : Addr → Prop) (w : Wd) (σ : St) (H : Hp) (ss : SS) (G : Bool → SS → Prop) (Q : Bool → Hp → Prop), Ok B R w σ H ss → f ss G →
  (∀ b H' ss' w', Ok B R w' σ H' ss' → Ext w w' → G b ss' → Q b H') → t σ H Q
def DA (X : Cx) (es : List Expr) (f : WA) : Prop := ∃ t, PA X es t ∧ ∀ (B : Hp) (R : Addr → Prop) (w : Wd) (σ : St) (H : Hp) (ss : SS) (G : List D → SS → Prop) (Q : List V → Hp → Prop), Ok B R w σ H ss → f ss G →
  (∀ vs H' ds ss' w', Ok B R w' σ H' ss' → RepL w' ds vs → Ext w w' → G ds ss' → Q vs H') → t σ H Q

section
variable {X : Cx} {e : Expr}
/-- a datum wanted -/
def fV (f : WE) : WV := fun ss G => f ss fun r ss' => fz r ss' G
theorem dv {f : WE} (h : DE X e f) : DV X e (fV f) := by
  obtain ⟨t, ht, hf⟩ := h
  refine ⟨t, ht, fun B R w σ H ss G Q o hw hq => hf B R w σ H ss _ Q o hw fun v H' r ss' w' o' rr ex hg => ?_⟩
  obtain ⟨d, ss2, w2, o2, ex2, rd, hk⟩ := fz_ok o' rr hg
  exact hq v H' d ss2 w2 o2 rd (ex.trans ex2) hk
/-- .. from a datum -/
def fE (f : WV) : WE := fun ss G => f ss fun d ss' => G (.val d) ss'
theorem de {f : WV} (h : DV X e f) : DE X e (fE f) := by
  obtain ⟨t, ht, hf⟩ := h
  exact ⟨t, ht, fun B R w σ H ss G Q o hw hq => hf B R w σ H ss _ Q o hw fun v H' d ss' w' o' rr ex hg => hq v H' (.val d) ss' w' o' rr ex hg⟩

/-- a new container becomes a cell -/
def toCell (r : Re) (ss : SS) (k : D → SS → Prop) : Prop :=
  match r with
  | .new c => k (.loc ss.S.length) { ss with S := ss.S ++ [c] }
  | r => fz r ss k
theorem celled {B : Hp} {R : Addr → Prop} {w : Wd} {σ : St} {H : Hp} {ss : SS} (o : Ok B R w σ H ss) {r : Re} {v : V} (h : RepR B R w σ H ss r v) {k : D → SS → Prop} (hk : toCell r ss k) :
    ∃ d ss' w', Ok B R w' σ H ss' ∧ Ext w w' ∧ Rep w' d v ∧ k d ss' := by
  cases r with
  | val d => exact fz_ok o h hk
  | slo i => exact fz_ok o h hk
  | new c =>
    obtain ⟨p, rfl, x, h1, h2, h3, h4, h5⟩ := h
    have ex : Ext w { w with cs := w.cs ++ [p] } := ⟨fun _ _ e => e, fun n a e => by
      show (w.cs ++ [p])[n]? = some a
      rw [List.getElem?_append_left (List.getElem?_eq_some_iff.mp e).1]; exact e⟩
    refine ⟨.loc ss.S.length, { ss with S := ss.S ++ [c] }, { w with cs := w.cs ++ [p] }, ⟨o.le, o.bs, fun a r => ?_, fun i d e => ?_, fun i c' e => ?_, o.oi, fun n c' e => ?_, ?_, fun a m => ?_, ?_, o.ln⟩, ex, ⟨p, rfl, ?_⟩, hk⟩
    · obtain ⟨a1, a2, a3⟩ := o.rs a r
      refine ⟨a1, fun m => ?_, a3⟩
      rcases List.mem_append.mp m with m | m
      · exact a2 m
      · have : a = p := by simpa using m
        exact h3 (this ▸ r)
    · obtain ⟨v, a1, a2⟩ := o.vl i d e
      exact ⟨v, a1, a2.ext ex⟩
    · obtain ⟨a1, a2, a3, a4, a5, a6⟩ := o.ow i c' e
      refine ⟨a1, a2.ext ex rfl, a3, a4, a5, fun m => ?_⟩
      rcases List.mem_append.mp m with m | m
      · exact a6 m
      · have : w.os i = p := by simpa using m
        exact h5 i c' e this
    · by_cases q : n < ss.S.length
      · have e : (ss.S ++ [c])[n]? = some c' := e
        rw [List.getElem?_append_left q] at e
        obtain ⟨a, a1, a2⟩ := o.ce n c' e
        exact ⟨a, ex.cs _ _ a1, a2.ext ex rfl⟩
      · have e : (ss.S ++ [c])[n]? = some c' := e
        rw [List.getElem?_append_right (by omega)] at e
        have hn : n - ss.S.length = 0 := by
          have := (List.getElem?_eq_some_iff.mp e).1
          simp at this; omega
        rw [hn] at e
        have e' : c = c' := by simpa using e
        subst e'
        have hn' : n = w.cs.length := by rw [o.cl]; omega
        refine ⟨p, ?_, x.ext ex rfl⟩
        show (w.cs ++ [p])[n]? = some p
        rw [hn']; simp
    · show (w.cs ++ [p]).length = (ss.S ++ [c]).length
      rw [List.length_append, List.length_append, o.cl]; rfl
    · rcases List.mem_append.mp m with m | m
      · exact o.cf a m
      · have : a = p := by simpa using m
        subst this
        exact ⟨h1, h2⟩
    · show (w.cs ++ [p]).Nodup
      rw [List.nodup_append]
      refine ⟨o.cn, by simp, fun a ha b hb => ?_⟩
      have : b = p := by simpa using hb
      subst this
      exact fun z => h4 (z ▸ ha)
    · show (w.cs ++ [p])[ss.S.length]? = some p
      rw [← o.cl]; simp
def fCell (f : WE) : WV := fun ss G => f ss fun r ss' => toCell r ss' G
theorem dv_cell {f : WE} (h : DE X e f) : DV X e (fCell f) := by
  obtain ⟨t, ht, hf⟩ := h
  refine ⟨t, ht, fun B R w σ H ss G Q o hw hq => hf B R w σ H ss _ Q o hw fun v H' r ss' w' o' rr ex hg => ?_⟩
  obtain ⟨d, ss2, w2, o2, ex2, rd, hk⟩ := celled o' rr hg
  exact hq v H' d ss2 w2 o2 rd (ex.trans ex2) hk

/-! ### names and constants -/
def fVar (i : Nat) : WE := fun ss G => match ss.r[i]? with
  | some (.val d) => G (.val d) ss
  | some (.own _) => G (.slo i) ss
  | _ => False
theorem de_name {i : Nat} (h : PE X e (tVar i)) : DE X e (fVar i) := by
  refine ⟨_, h, fun B R w σ H ss G Q o hw hq => ?_⟩
  unfold fVar at hw
  cases q : ss.r[i]? with
  | none => simp only [q] at hw
  | some x =>
    cases x with
    | no => simp only [q] at hw
    | val d =>
      simp only [q] at hw
      obtain ⟨v, a1, a2⟩ := o.vl i d q
      exact ⟨v, a1, hq v H (.val d) ss w o a2 (.refl w) hw⟩
    | own c =>
      simp only [q] at hw
      obtain ⟨a1, _⟩ := o.ow i c q
      exact ⟨_, a1, hq _ H (.slo i) ss w o a1 (.refl w) hw⟩
theorem de_v (i : Nat) {x : Str} {pos : Pos} (hN : X.N[i]? = some x := by rfl) (hv : Vis X.env.scope x := by first | exact Or.inl rfl | exact Or.inr (Or.inl rfl) | exact Or.inr (Or.inr rfl)) (hd : (x == ("__debug__" : Str)) = false := by decide)
    (hcd : (x == ("__classdict__" : Str)) = false := by decide) : DE X (.Name x pos) (fVar i) := de_name (pe_var hN hv hd hcd)
def fCon (d : D) : WE := fun ss G => G (.val d) ss
theorem de_con {d : D} {v : V} (h : PE X e (tC v)) (hr : ∀ w, Rep w d v) : DE X e (fCon d) :=
  ⟨_, h, fun B R w σ H ss G Q o hw hq => hq v H (.val d) ss w o (hr w) (.refl w) hw⟩
theorem de_int {i : Int} {j pos} : DE X (.Constant (.int i) j pos) (fCon (.int i)) := de_con pe_int fun _ => rfl
theorem de_bl {b : Bool} {j pos} : DE X (.Constant (.bool b) j pos) (fCon (.bl b)) := de_con pe_bl fun _ => rfl
theorem de_non {j pos} : DE X (.Constant .none j pos) (fCon .non) := de_con pe_non fun _ => rfl
theorem de_str {x : Str} {j pos} : DE X (.Constant (.str x) j pos) (fCon (.str x)) := de_con pe_str fun _ => rfl
/-- a module's constant text -/
theorem de_gstr {x : Str} {y : Str} {pos : Pos} (hg : Gl X x) (hm : ∃ t, X.mg x = some (.str y t)) (hd : (x == ("__debug__" : Str)) = false := by decide) : DE X (.Name x pos) (fCon (.str y)) := by
  obtain ⟨t, hm⟩ := hm
  exact de_con (v := .str y) (pe_glob hg hm (show RelV (.str y) (.str y t) from ⟨t, rfl⟩) hd) fun _ => rfl

/-! ### two parts -/
def f2 (fa fb : WE) (k : Re → Re → SS → Prop) : SS → Prop := fun ss => fa ss fun a s1 => fb s1 fun b s2 => k a b s2
theorem two {a b : Expr} {fa fb : WE} (ha : DE X a fa) (hb : DE X b fb) : ∃ ta tb, PE X a ta ∧ PE X b tb ∧ ∀ (B : Hp) (R : Addr → Prop) (w : Wd) (σ : St) (H : Hp) (ss : SS) (k : Re → Re → SS → Prop) (Q : V → V → Hp → Prop), Ok B R w σ H ss → f2 fa fb k ss →
    (∀ x y H' r q ss' w', Ok B R w' σ H' ss' → RepR B R w' σ H' ss' r x → RepR B R w' σ H' ss' q y → Ext w w' → k r q ss' → Q x y H') → ta σ H fun x H1 => tb σ H1 fun y H2 => Q x y H2 := by
  obtain ⟨ta, pa, ka⟩ := ha
  obtain ⟨tb, pb, kb⟩ := hb
  refine ⟨ta, tb, pa, pb, fun B R w σ H ss k Q o hw hq => ka B R w σ H ss _ _ o hw fun x H1 r s1 w1 o1 r1 e1 h1 => ?_⟩
  obtain ⟨B', R', o1', hB, hR, back⟩ := o1.hold r1
  refine kb B' R' w1 σ H1 s1 _ _ o1' h1 fun y H2 q s2 w2 o2 r2 e2 h2 => ?_
  obtain ⟨o2', r1'⟩ := back w2 H2 s2 o2 e2
  exact hq x y H2 r q s2 w2 o2' r1' (r2.weak hB hR) (e1.trans e2) h2

end
end Vl
namespace Vl
open PySem PySem.Spec L2
open PyProof.Rows hiding St

/-! ### operators by values -/
/-- the ways an operator may end -/
structure Fin (w : Wd) (H : Hp) (P : Re → Prop) (Q : VK) : Prop where
  old : ∀ (v : V) (d : D), Rep w d v → P (.val d) → Q v H
  new : ∀ (p : Addr) (u : HO) (c : C), H p = none → Cel w (upd H p u) p c → P (.new c) → Q (.ref p) (upd H p u)
  tup : ∀ (p : Addr) (vs : List V) (ds : List D), H p = none → RepL w ds vs → P (.val (.tup ds)) → Q (.ref p) (upd H p (.tup vs))
abbrev Le (w : Wd) (H : Hp) : Prop := ∀ (a : Addr) (u : HO), w.F a = some u → Rd H a u
section
variable {B : Hp} {R : Addr → Prop} {w : Wd} {σ : St} {H : Hp} {ss : SS}
theorem new_ok (o : Ok B R w σ H ss) {p : Addr} {u : HO} {c : C} (hp : H p = none) (hc : Cel w (upd H p u) p c) : Ok B R w σ (upd H p u) ss ∧ RepR B R w σ (upd H p u) ss (.new c) (.ref p) := by
  obtain ⟨h1, h2, h3, h4, h5⟩ := o.fresh hp
  exact ⟨o.grow fun b x e => by rw [upd_ne (ne_of_none e hp)]; exact e, p, rfl, hc, h1, h2, h3, h4, h5⟩
theorem frzd (o : Ok B R w σ H ss) {p : Addr} {u : HO} (hp : H p = none) : Ok B R (frzF w p u) σ (upd H p u) ss ∧ Ext w (frzF w p u) := by
  obtain ⟨h1, h2, h3, h4, h5⟩ := o.fresh hp
  have o1 := o.grow (H' := upd H p u) fun b x e => by rw [upd_ne (ne_of_none e hp)]; exact e
  exact ⟨o1.frz upd_same h1 h3 h4 h5, frzF.ext h1⟩
theorem tup_ok (o : Ok B R w σ H ss) {p : Addr} {vs : List V} {ds : List D} (hp : H p = none) (hr : RepL w ds vs) : Ok B R (frzF w p (.tup vs)) σ (upd H p (.tup vs)) ss ∧ Ext w (frzF w p (.tup vs)) ∧ Rep (frzF w p (.tup vs)) (.tup ds) (.ref p) := by
  obtain ⟨o1, ex⟩ := frzd (u := .tup vs) o hp
  exact ⟨o1, ex, p, vs, rfl, upd_same, hr.ext ex⟩
theorem fin_of (o : Ok B R w σ H ss) {w0 : Wd} (e0 : Ext w0 w) {P : Re → Prop} {G : Re → SS → Prop} {Q : VK} (hP : ∀ r, P r → G r ss) (hq : ∀ v H' r ss' w', Ok B R w' σ H' ss' → RepR B R w' σ H' ss' r v → Ext w0 w' → G r ss' → Q v H') : Fin w H P Q := by
  refine ⟨fun v d r h => hq v H (.val d) ss w o r e0 (hP _ h), fun p u c hp hc h => ?_, fun p vs ds hp hr h => ?_⟩
  · obtain ⟨o2, r2⟩ := new_ok o hp hc
    exact hq _ _ (.new c) ss w o2 r2 e0 (hP _ h)
  · obtain ⟨o2, ex, r2⟩ := tup_ok o hp hr
    exact hq _ _ (.val (.tup ds)) ss _ o2 r2 (e0.trans ex) (hP _ h)
end
abbrev KK := D → D → (Re → Prop) → Prop
def OpX (X : Cx) (r : R2) (k : KK) : Prop := ∀ (w : Wd) (H : Hp) (a b : D) (x y : V) (P : Re → Prop) (Q : VK), Le w H → RepT w H a x → RepT w H b y → k a b P → Fin w H P Q → r x y H Q
section
variable {X : Cx} {a b e : Expr} {pos : Pos} {r : R2} {k : KK} {fa fb : WE}
def fOp (k : KK) (fa fb : WE) : WE := fun ss G => f2 fa fb (fun a b s => vw a s fun a => vw b s fun b => k a b fun d => G d s) ss
theorem op_run {ta tb : TE} (hk : OpX X r k) (h2 : ∀ (B : Hp) (R : Addr → Prop) (w : Wd) (σ : St) (H : Hp) (ss : SS) (k : Re → Re → SS → Prop) (Q : V → V → Hp → Prop), Ok B R w σ H ss → f2 fa fb k ss →
    (∀ x y H' r q ss' w', Ok B R w' σ H' ss' → RepR B R w' σ H' ss' r x → RepR B R w' σ H' ss' q y → Ext w w' → k r q ss' → Q x y H') → ta σ H fun x H1 => tb σ H1 fun y H2 => Q x y H2)
    (B : Hp) (R : Addr → Prop) (w : Wd) (σ : St) (H : Hp) (ss : SS) (G : Re → SS → Prop) (Q : VK) (o : Ok B R w σ H ss) (hw : fOp k fa fb ss G)
    (hq : ∀ v H' r ss' w', Ok B R w' σ H' ss' → RepR B R w' σ H' ss' r v → Ext w w' → G r ss' → Q v H') : tOp r ta tb σ H Q := by
  refine h2 B R w σ H ss _ _ o hw fun x y H' p q s' w' o' r1 r2 ex hk' => ?_
  obtain ⟨a', ra, hk'⟩ := vw_ok o' r1 hk'
  obtain ⟨b', rb, hk'⟩ := vw_ok o' r2 hk'
  exact hk w' H' a' b' x y _ _ o'.le ra rb hk' (fin_of o' ex (fun _ h => h) hq)
theorem de_bin {op : Operator} (ho : OpR X (binaryOp op) r) (hk : OpX X r k) (ha : DE X a fa) (hb : DE X b fb) : DE X (.BinOp a op b pos) (fOp k fa fb) := by
  obtain ⟨ta, tb, pa, pb, h2⟩ := two ha hb
  exact ⟨_, pe_op ho pa pb, op_run hk h2⟩
theorem de_cmp {op : CmpOp} (ho : OpR X (compareOp op) r) (hk : OpX X r k) (hm : behindInMarks op b = false) (ha : DE X a fa) (hb : DE X b fb) : DE X (.Compare a [op] [b] pos) (fOp k fa fb) := by
  obtain ⟨ta, tb, pa, pb, h2⟩ := two ha hb
  exact ⟨_, pe_cmpR ho pa pb hm, op_run hk h2⟩
theorem OpX.or {r' : R2} {k' : KK} (h : OpX X r k) (h' : OpX X r' k') : OpX X (fun x y H Q => r x y H Q ∨ r' x y H Q) (fun a b P => k a b P ∨ k' a b P) := fun w H a b x y P Q le ra rb hk hq =>
  hk.imp (fun z => h w H a b x y P Q le ra rb z hq) fun z => h' w H a b x y P Q le ra rb z hq

/-! ### ints -/
def kI (c : Int → Int → Prop) (g : Int → Int → D) : KK := fun a b P => match a, b with
  | .int i, .int j => c i j ∧ P (.val (g i j))
  | _, _ => False
theorem kI_inv {c : Int → Int → Prop} {g : Int → Int → D} {a b : D} {P : Re → Prop} (h : kI c g a b P) : ∃ i j, a = .int i ∧ b = .int j ∧ c i j ∧ P (.val (g i j)) := by
  unfold kI at h
  split at h
  · exact ⟨_, _, rfl, rfl, h⟩
  · exact h.elim
theorem ox_int {c : Int → Int → Prop} {g : Int → Int → V} {g' : Int → Int → D} (hg : ∀ w i j, Rep w (g' i j) (g i j)) : OpX X (rI c g) (kI c g') := by
  intro w H a b x y P Q le ra rb hk hq
  obtain ⟨i, j, rfl, rfl, hc, hp⟩ := kI_inv hk
  cases (show x = .int i from ra)
  cases (show y = .int j from rb)
  exact ⟨i, j, rfl, rfl, hc, hq.old _ _ (hg w i j) hp⟩
theorem ox_int0 {g : Int → Int → V} {g' : Int → Int → D} (hg : ∀ w i j, Rep w (g' i j) (g i j)) : OpX X (rI0 g) (kI (fun _ _ => True) g') := by
  intro w H a b x y P Q le ra rb hk hq
  obtain ⟨i, j, rfl, rfl, hc, hp⟩ := kI_inv hk
  cases (show x = .int i from ra)
  cases (show y = .int j from rb)
  exact ⟨i, j, rfl, rfl, hq.old _ _ (hg w i j) hp⟩

/-- lists by reading: + and * -/
theorem lstR {X : Cx} {pins : List (Addr × Obj)} {σ : St} {H : Hp} {s : Shared} {l : Addr} {xs : List V} (I : Inv X pins σ H s) (h : Rd H l (.lst xs)) :
    xs.length ≤ sizeLine ∧ ∃ (its : List Value) (n : Nat), Vals xs its ∧ xs.length = its.length ∧ s.heap.get? l = some { cls := .type "list", data := .seq its.toArray n } := by
  obtain ⟨z, its, n, r, e⟩ := h.ok I.hok
  exact ⟨z, its, n, r, r.length, e⟩
def rCatR : R2 := fun x y H Q => ∃ l b xs zs, x = .ref l ∧ y = .ref b ∧ Rd H l (.lst xs) ∧ Rd H b (.lst zs) ∧ xs.length + zs.length ≤ sizeLine ∧ ∀ p, H p = none → Q (.ref p) (upd H p (.lst (xs ++ zs)))
theorem op_catR : OpR X (binaryOp .Add) rCatR := by
  intro pins s σ H x y v u Q I rx ry h
  obtain ⟨l, b, xs, zs, rfl, rfl, hH, hB, hz, q⟩ := h
  cases rx
  cases ry
  obtain ⟨z, its, n, r, hl, e⟩ := lstR I hH
  obtain ⟨z2, its2, n2, r2, hl2, e2⟩ := lstR I hB
  refine PySem.P.add_list e e2 ?_ (by rw [List.size_toArray, List.size_toArray]; omega)
  have ea : its.toArray ++ its2.toArray = (its ++ its2).toArray := by simp
  rw [ea]
  exact ⟨.ref _, _, I.lnew (t' := s.toks) (r.append r2) (by rw [List.length_append]; omega), rfl, q _ I.fresh⟩
def rRepR : R2 := fun x y H Q => ∃ l k xs, x = .ref l ∧ y = .int k ∧ Rd H l (.lst xs) ∧ -(2 ^ 63) ≤ k ∧ k < 2 ^ 63 ∧ xs.length * k.toNat ≤ sizeLine ∧
  ∀ p, H p = none → Q (.ref p) (upd H p (.lst (List.replicate k.toNat xs).flatten))
theorem op_repR : OpR X (binaryOp .Mult) rRepR := by
  intro pins s σ H x y v u Q I rx ry h
  obtain ⟨l, k, xs, rfl, rfl, hH, h1, h2, hz, q⟩ := h
  cases rx
  obtain ⟨t, rfl⟩ := ry
  obtain ⟨z, its, n, r, hl, e⟩ := lstR I hH
  have hlen : its.toArray.size * k.toNat ≤ sizeLine := by rw [List.size_toArray, ← hl]; exact hz
  have hcap : ¬ its.toArray.size * k.toNat > (2 ^ 63 - 1) / 8 := by
    have : (sizeLine : Nat) ≤ (2 ^ 63 - 1) / 8 := by decide
    omega
  have hfit : ¬ (!Builtin.List.listFitsIndex k) = true := by
    rw [fitsIndex_both h1 h2]
    exact Bool.false_ne_true
  have hlong : ¬ Builtin.List.listTooLong (its.toArray.size * k.toNat) = true := by
    rw [notLongL hlen]
    exact Bool.false_ne_true
  have hnew : List.foldl (fun x1 x2 => x1 ++ x2) #[] (List.replicate (if its.toArray.isEmpty = true then 0 else k.toNat) its.toArray) = (List.replicate k.toNat its).flatten.toArray := by
    have f0 : ∀ m : Nat, List.foldl (fun x1 x2 => x1 ++ x2) #[] (List.replicate m its.toArray) = (List.replicate m its).flatten.toArray := fun m => by
      have := foldl_rep its m []
      rw [List.nil_append] at this
      exact this
    rw [f0]
    cases its with
    | nil => simp
    | cons a r' => rw [if_neg (by simp)]
  refine wpAny_binaryOp_repeat_ref (T := "list") (U := "int") (by decide) ⟨_, e, rfl⟩ (fun s' => typeIs_int s' k t) noFill_list_mul F.fills_int_mul F.slot_int_rmul repeat_list F.slot_int_index.lookup
    (call_meets F.slot_int_rmul (typeIs_int s k t) F.entry_int_rmul (F.args_int_rmul_2 _ _) (int___rmul___int_list k t l its.toArray n)
      ⟨e, rfl, ⟨_, e, rfl⟩, call_meets F.slot_list_mul ⟨_, e, rfl⟩ F.entry_list_mul (F.args_list_mul_2 _ _) (AutoListH.list___mul___list_int_3 l its.toArray n k t hfit hcap hlong) ⟨e, ?_⟩⟩)
  rw [hnew]
  exact ⟨.ref _, _, I.lnew (t' := s.toks) (r.rep k.toNat) (by rw [PyProof.Rows.lm_len_rep_flat, Nat.mul_comm]; exact hz), rfl, q _ I.fresh⟩
theorem RepL.rep {w : Wd} {ds : List D} {vs : List V} (h : RepL w ds vs) : ∀ n : Nat, RepL w (List.replicate n ds).flatten (List.replicate n vs).flatten
  | 0 => rfl
  | n + 1 => by rw [List.replicate_succ, List.replicate_succ, List.flatten_cons, List.flatten_cons]; exact h.append (RepL.rep h n)

/-- + -/
def kAdd : KK := fun a b P => match a, b with
  | .int i, .int j => P (.val (.int (i + j)))
  | .str x, .str y => x.length + y.length ≤ sizeLine ∧ P (.val (.str (x ++ y)))
  | .lst xs, .lst ys => xs.length + ys.length ≤ sizeLine ∧ P (.new (.lst (xs ++ ys)))
  | .tup xs, .tup ys => xs.length + ys.length ≤ sizeLine ∧ P (.val (.tup (xs ++ ys)))
  | _, _ => False
def rAddA (K : PySem.W.Frag) : R2 := fun x y H Q => (rI0 fun i j => .int (i + j)) x y H Q ∨ (∃ i j, x = .str i ∧ y = .str j ∧ i.length + j.length ≤ sizeLine ∧ Q (.str (i ++ j)) H) ∨ rCatR x y H Q ∨ rCatA K x y H Q
theorem op_addA : OpR X (binaryOp .Add) (rAddA X.K) := op_add.or (op_add_str.or (op_catR.or op_catA))
theorem rep_len {w : Wd} {ds es : List D} {vs us : List V} (h1 : RepL w ds vs) (h2 : RepL w es us) (h : ds.length + es.length ≤ sizeLine) : vs.length + us.length ≤ sizeLine := by
  rw [h1.length, h2.length]; exact h
theorem ox_add : OpX X (rAddA X.K) kAdd := by
  intro w H a b x y P Q le ra rb hk hq
  unfold kAdd at hk
  split at hk
  · cases (show x = .int _ from ra)
    cases (show y = .int _ from rb)
    exact .inl ⟨_, _, rfl, rfl, hq.old _ _ (show Rep w (.int _) (.int _) from rfl) hk⟩
  · cases (show x = .str _ from ra)
    cases (show y = .str _ from rb)
    exact .inr (.inl ⟨_, _, rfl, rfl, hk.1, hq.old _ _ (show Rep w (.str _) (.str _) from rfl) hk.2⟩)
  · obtain ⟨l, vs, rfl, h1, h2⟩ := (show ∃ a vs, x = .ref a ∧ Rd H a (.lst vs) ∧ RepL w _ vs from ra)
    obtain ⟨m, us, rfl, g1, g2⟩ := (show ∃ a vs, y = .ref a ∧ Rd H a (.lst vs) ∧ RepL w _ vs from rb)
    exact .inr (.inr (.inl ⟨l, m, vs, us, rfl, rfl, h1, g1, rep_len h2 g2 hk.1, fun p hp => hq.new p _ (.lst _) hp ⟨_, upd_same, h2.append g2⟩ hk.2⟩))
  · obtain ⟨l, vs, rfl, h1, h2⟩ := (show ∃ a vs, x = .ref a ∧ w.F a = some (.tup vs) ∧ RepL w _ vs from ra)
    obtain ⟨m, us, rfl, g1, g2⟩ := (show ∃ a vs, y = .ref a ∧ w.F a = some (.tup vs) ∧ RepL w _ vs from rb)
    rename_i xs ys
    refine .inr (.inr (.inr ⟨l, m, vs, us, rfl, rfl, .inl (le _ _ h1), .inl (le _ _ g1), rep_len h2 g2 hk.1, fun e => ?_, fun e1 e2 => ?_, fun e1 e2 p hp => ?_⟩))
    · have : xs = [] := by have := h2.length; rw [e] at this; exact List.eq_nil_of_length_eq_zero this.symm
      subst this
      exact hq.old _ (.tup ys) ⟨m, us, rfl, g1, g2⟩ hk.2
    · have : ys = [] := by have := g2.length; rw [e2] at this; exact List.eq_nil_of_length_eq_zero this.symm
      subst this
      exact hq.old _ (.tup xs) ⟨l, vs, rfl, h1, h2⟩ (by have := hk.2; rw [List.append_nil] at this; exact this)
    · exact hq.tup p _ _ hp (h2.append g2) hk.2
  · exact hk.elim
def kSub : KK := kI (fun _ _ => True) fun i j => .int (i - j)
theorem ox_sub : OpX X (rI0 fun i j => .int (i - j)) kSub := ox_int0 fun _ _ _ => rfl
def kMod : KK := kI (fun _ j => 0 < j) fun i j => .int (i % j)
theorem ox_mod : OpX X (rI (fun _ j => 0 < j) fun i j => .int (i % j)) kMod := ox_int fun _ _ _ => rfl
def kDiv : KK := kI CDivW fun i j => .int (i / j)
theorem ox_div : OpX X (rI CDivW fun i j => .int (i / j)) kDiv := ox_int fun _ _ _ => rfl
theorem op_powA : OpR X (binaryOp .Pow) (rI (fun i j => 0 ≤ j ∧ (Builtin.Int.intBits i : Int) * j ≤ 2 ^ 27) fun i j => .int (i ^ j.toNat)) := opI fun _ _ _ _ _ _ _ hc q => pow_int hc.1 hc.2 q
def kPow : KK := kI (fun i j => 0 ≤ j ∧ (Builtin.Int.intBits i : Int) * j ≤ 2 ^ 27) fun i j => .int (i ^ j.toNat)
theorem ox_pow : OpX X (rI (fun i j => 0 ≤ j ∧ (Builtin.Int.intBits i : Int) * j ≤ 2 ^ 27) fun i j => .int (i ^ j.toNat)) kPow := ox_int fun _ _ _ => rfl
/-- * -/
def rMulS : R2 := fun x y H Q => ∃ z n, x = .str z ∧ y = .int n ∧ MulOk z n ∧ Q (.str (Txt.mul z n)) H
theorem op_mulS : OpR X (binaryOp .Mult) rMulS := by
  intro pins s σ H x y v u Q I rx ry h
  obtain ⟨z, n, rfl, rfl, hc, q⟩ := h
  obtain ⟨t, rfl⟩ := rx
  obtain ⟨t', rfl⟩ := ry
  exact SB.mul hc fun t' k => ⟨.str _, H, I.tok _, ⟨_, rfl⟩, q⟩
def kMul : KK := fun a b P => match a, b with
  | .int i, .int j => IntMulOk i j ∧ P (.val (.int (i * j)))
  | .str x, .int j => MulOk x j ∧ P (.val (.str (Txt.mul x j)))
  | .lst xs, .int j => (-(2 ^ 63) ≤ j ∧ j < 2 ^ 63 ∧ xs.length * j.toNat ≤ sizeLine) ∧ P (.new (.lst (List.replicate j.toNat xs).flatten))
  | _, _ => False
def rMulA : R2 := fun x y H Q => (rI IntMulOk fun i j => .int (i * j)) x y H Q ∨ rMulS x y H Q ∨ rRepR x y H Q
theorem op_mulI : OpR X (binaryOp .Mult) (rI IntMulOk fun i j => .int (i * j)) := opI fun _ _ _ _ _ _ _ hc q => mul_int q hc
theorem op_mulA : OpR X (binaryOp .Mult) rMulA := op_mulI.or (op_mulS.or op_repR)
theorem ox_mul : OpX X rMulA kMul := by
  intro w H a b x y P Q le ra rb hk hq
  unfold kMul at hk
  split at hk
  · cases (show x = .int _ from ra)
    cases (show y = .int _ from rb)
    exact .inl ⟨_, _, rfl, rfl, hk.1, hq.old _ _ (show Rep w (.int _) (.int _) from rfl) hk.2⟩
  · cases (show x = .str _ from ra)
    cases (show y = .int _ from rb)
    exact .inr (.inl ⟨_, _, rfl, rfl, hk.1, hq.old _ _ (show Rep w (.str _) (.str _) from rfl) hk.2⟩)
  · obtain ⟨l, vs, rfl, h1, h2⟩ := (show ∃ a vs, x = .ref a ∧ Rd H a (.lst vs) ∧ RepL w _ vs from ra)
    cases (show y = .int _ from rb)
    exact .inr (.inr ⟨l, _, vs, rfl, rfl, h1, hk.1.1, hk.1.2.1, by rw [h2.length]; exact hk.1.2.2, fun p hp => hq.new p _ (.lst _) hp ⟨_, upd_same, h2.rep _⟩ hk.2⟩)
  · exact hk.elim
end
end Vl
namespace Vl
open PySem PySem.Spec L2
open PyProof.Rows hiding St

/-! ### data as the library's -/
mutual
def toPy : D → PyData
  | .non => .none
  | .bl b => .bool b
  | .int i => .int i
  | .str x => .str x
  | .lst xs => .list (toPyL xs)
  | .tup xs => .tuple (toPyL xs)
  | .dic _ => .dict []
  | .loc _ => .dict []
  | .raw _ => .dict []
def toPyL : List D → List PyData
  | [] => []
  | d :: ds => toPy d :: toPyL ds
end
theorem toPyL_map : ∀ ds : List D, toPyL ds = ds.map toPy
  | [] => rfl
  | d :: ds => by rw [toPyL, List.map_cons, toPyL_map ds]
mutual
theorem rep_dp {K : PySem.W.Frag} {w : Wd} {H : Hp} (le : Le w H) : ∀ (d : D) (v : V), Rep w d v → (toPy d).canLay0 = true → Dp K H v (toPy d)
  | .non, v, h, _ => by cases (show v = .non from h); exact .non
  | .bl b, v, h, _ => by cases (show v = .bl b from h); exact .bl b
  | .int i, v, h, _ => by cases (show v = .int i from h); exact .int i
  | .str x, v, h, _ => by cases (show v = .str x from h); exact .str x
  | .lst ds, v, ⟨a, vs, e1, e2, r⟩, z => by subst e1; exact .lst (.inl (le _ _ e2)) (repL_dp le ds vs r z)
  | .tup ds, v, ⟨a, vs, e1, e2, r⟩, z => by subst e1; exact .tup (.inl (le _ _ e2)) (repL_dp le ds vs r z)
  | .dic _, _, _, z => by cases z
  | .loc _, _, _, z => by cases z
  | .raw _, _, _, z => by cases z
theorem repL_dp {K : PySem.W.Frag} {w : Wd} {H : Hp} (le : Le w H) : ∀ (ds : List D) (vs : List V), RepL w ds vs → PyData.canLayAll0 (toPyL ds) = true → DpAll K H vs (toPyL ds)
  | [], vs, h, _ => by subst h; exact .nil
  | d :: ds, _, ⟨v, us, e1, h1, h2⟩, z => by
    subst e1
    have z' : (toPy d).canLay0 = true ∧ PyData.canLayAll0 (toPyL ds) = true := by
      have q : ((toPy d).canLay0 && PyData.canLayAll0 (toPyL ds)) = true := z
      simpa using q
    exact .cons (rep_dp le d v h1 z'.1) (repL_dp le ds us h2 z'.2)
end
theorem repT_dp {K : PySem.W.Frag} {w : Wd} {H : Hp} (le : Le w H) {d : D} {v : V} (h : RepT w H d v) (z : (toPy d).canLay0 = true) : Dp K H v (toPy d) := by
  cases d with
  | lst ds => obtain ⟨a, vs, e1, e2, r⟩ := h; subst e1; exact .lst (.inl e2) (repL_dp le ds vs r z)
  | dic ds => cases z
  | non => exact rep_dp le _ v h z
  | bl _ => exact rep_dp le _ v h z
  | int _ => exact rep_dp le _ v h z
  | str _ => exact rep_dp le _ v h z
  | tup _ => exact rep_dp le _ v h z
  | loc _ => exact rep_dp le _ v h z
  | raw _ => exact rep_dp le _ v h z
/-- plain data of small depth -/
def shp (d : D) : Bool := SeqAt.shaped (toPy d)
def eqD (a b : D) : Bool := PyData.eqv (toPy a) (toPy b)
theorem shp_lay {d : D} (h : shp d = true) : (toPy d).canLay0 = true := SeqAt.canLay_of_shaped h

def flatD : D → Bool
  | .non | .bl _ | .int _ | .str _ => true
  | _ => false
section
variable {X : Cx} {a b c e : Expr} {pos : Pos} {fa fb fc : WE}
def scD : D → D → Bool
  | .non, .non | .non, .int _ | .int _, .non | .non, .bl _ | .bl _, .non | .non, .str _ | .str _, .non => true
  | .int _, .int _ | .bl _, .bl _ | .str _, .str _ | .int _, .str _ | .str _, .int _ | .bl _, .str _ | .str _, .bl _ => true
  | _, _ => false
/-- what == tells apart -/
def cmpOk (a b : D) : Prop := scD a b = true ∨ (shp a = true ∧ shp b = true)
theorem scD_rep {w : Wd} {a b : D} {x y : V} (h : scD a b = true) (ra : Rep w a x) (rb : Rep w b y) : scal x y = true ∧ decide (x = y) = eqD a b := by
  cases a <;> cases b <;> first | (cases h; done) | skip
  all_goals (cases ra; cases rb; refine ⟨rfl, ?_⟩; rw [Bool.eq_iff_iff]; simp [eqD, toPy, PyData.eqv])
theorem scD_flat {a b : D} (h : scD a b = true) : flatD a = true ∧ flatD b = true := by
  cases a <;> cases b <;> first | (cases h; done) | exact ⟨rfl, rfl⟩
theorem flat_repT {w : Wd} {H : Hp} {a : D} {x : V} (h : flatD a = true) (r : RepT w H a x) : Rep w a x := by
  cases a <;> first | exact r | cases h
def kEq : KK := fun a b P => cmpOk a b ∧ P (.val (.bl (eqD a b)))
def kNe : KK := fun a b P => cmpOk a b ∧ P (.val (.bl (!eqD a b)))
def rEqA (K : PySem.W.Frag) : R2 := fun x y H Q => rEq x y H Q ∨ rEqD K x y H Q
def rNeA (K : PySem.W.Frag) : R2 := fun x y H Q => rNe x y H Q ∨ rNeD K x y H Q
theorem ox_eq : OpX X (rEqA X.K) kEq := fun w H a b x y P Q le ra rb hk hq => by
  rcases hk.1 with h | ⟨s1, s2⟩
  · obtain ⟨f1, f2⟩ := scD_flat h
    obtain ⟨g1, g2⟩ := scD_rep h (flat_repT f1 ra) (flat_repT f2 rb)
    exact .inl ⟨g1, by rw [g2]; exact hq.old _ (.bl _) rfl hk.2⟩
  · exact .inr ⟨_, _, repT_dp le ra (shp_lay s1), repT_dp le rb (shp_lay s2), s1, s2, hq.old _ (.bl _) rfl hk.2⟩
theorem ox_ne : OpX X (rNeA X.K) kNe := fun w H a b x y P Q le ra rb hk hq => by
  rcases hk.1 with h | ⟨s1, s2⟩
  · obtain ⟨f1, f2⟩ := scD_flat h
    obtain ⟨g1, g2⟩ := scD_rep h (flat_repT f1 ra) (flat_repT f2 rb)
    exact .inl ⟨g1, by rw [g2]; exact hq.old _ (.bl _) rfl hk.2⟩
  · exact .inr ⟨_, _, repT_dp le ra (shp_lay s1), repT_dp le rb (shp_lay s2), s1, s2, hq.old _ (.bl _) rfl hk.2⟩
theorem de_eq (hu : X.A.units + 64 < cLine) (ha : DE X a fa) (hb : DE X b fb) : DE X (.Compare a [.Eq] [b] pos) (fOp kEq fa fb) := de_cmp (op_eq.or (op_eqD hu)) ox_eq (nomark _) ha hb
theorem de_ne (hu : X.A.units + 64 < cLine) (ha : DE X a fa) (hb : DE X b fb) : DE X (.Compare a [.NotEq] [b] pos) (fOp kNe fa fb) := de_cmp (op_ne.or (op_neD hu)) ox_ne (nomark _) ha hb
/-- order: ints, texts -/
def kOrd (p : Int → Int → Bool) (q : Str → Str → Bool) : KK := fun a b P => match a, b with
  | .int i, .int j => P (.val (.bl (p i j)))
  | .str x, .str y => P (.val (.bl (q x y)))
  | _, _ => False
theorem ox_ord {p : Int → Int → Bool} {q : Str → Str → Bool} {r : R2} (h : ∀ x y H Q, ((rI0 fun i j => .bl (p i j)) x y H Q ∨ ∃ i j, x = .str i ∧ y = .str j ∧ Q (.bl (q i j)) H) → r x y H Q) : OpX X r (kOrd p q) := by
  intro w H a b x y P Q le ra rb hk hq
  unfold kOrd at hk
  split at hk
  · cases (show x = .int _ from ra)
    cases (show y = .int _ from rb)
    exact h _ _ _ _ (.inl ⟨_, _, rfl, rfl, hq.old _ (.bl _) rfl hk⟩)
  · cases (show x = .str _ from ra)
    cases (show y = .str _ from rb)
    exact h _ _ _ _ (.inr ⟨_, _, rfl, rfl, hq.old _ (.bl _) rfl hk⟩)
  · exact hk.elim
def sLt (x y : Str) : Bool := decide (x.cps.toList < y.cps.toList)
def kLt : KK := kOrd (fun i j => decide (i < j)) sLt
def kGt : KK := kOrd (fun i j => decide (j < i)) fun x y => sLt y x
def kLe : KK := kOrd (fun i j => decide (i ≤ j)) fun x y => !sLt y x
def kGe : KK := kOrd (fun i j => decide (j ≤ i)) fun x y => !sLt x y
theorem or_lt : OpR X (compareOp .Lt) (fun x y H Q => (rI0 fun i j => .bl (decide (i < j))) x y H Q ∨ ∃ i j, x = .str i ∧ y = .str j ∧ Q (.bl (sLt i j)) H) := op_lt.or op_lt_str
theorem or_gt : OpR X (compareOp .Gt) (fun x y H Q => (rI0 fun i j => .bl (decide (j < i))) x y H Q ∨ ∃ i j, x = .str i ∧ y = .str j ∧ Q (.bl (sLt j i)) H) := op_gt.or op_gt_str
theorem or_le : OpR X (compareOp .LtE) (fun x y H Q => (rI0 fun i j => .bl (decide (i ≤ j))) x y H Q ∨ ∃ i j, x = .str i ∧ y = .str j ∧ Q (.bl (!sLt j i)) H) := op_le.or op_le_str
theorem or_ge : OpR X (compareOp .GtE) (fun x y H Q => (rI0 fun i j => .bl (decide (j ≤ i))) x y H Q ∨ ∃ i j, x = .str i ∧ y = .str j ∧ Q (.bl (!sLt i j)) H) := op_ge.or op_ge_str
theorem de_lt (ha : DE X a fa) (hb : DE X b fb) : DE X (.Compare a [.Lt] [b] pos) (fOp kLt fa fb) := de_cmp or_lt (ox_ord fun _ _ _ _ h => h) (nomark _) ha hb
theorem de_gt (ha : DE X a fa) (hb : DE X b fb) : DE X (.Compare a [.Gt] [b] pos) (fOp kGt fa fb) := de_cmp or_gt (ox_ord fun _ _ _ _ h => h) (nomark _) ha hb
theorem de_le (ha : DE X a fa) (hb : DE X b fb) : DE X (.Compare a [.LtE] [b] pos) (fOp kLe fa fb) := de_cmp or_le (ox_ord fun _ _ _ _ h => h) (nomark _) ha hb
theorem de_ge (ha : DE X a fa) (hb : DE X b fb) : DE X (.Compare a [.GtE] [b] pos) (fOp kGe fa fb) := de_cmp or_ge (ox_ord fun _ _ _ _ h => h) (nomark _) ha hb
/-- + - * % // ** -/
theorem de_add (ha : DE X a fa) (hb : DE X b fb) : DE X (.BinOp a .Add b pos) (fOp kAdd fa fb) := de_bin op_addA ox_add ha hb
theorem de_sub (ha : DE X a fa) (hb : DE X b fb) : DE X (.BinOp a .Sub b pos) (fOp kSub fa fb) := de_bin op_sub ox_sub ha hb
theorem de_mul (ha : DE X a fa) (hb : DE X b fb) : DE X (.BinOp a .Mult b pos) (fOp kMul fa fb) := de_bin op_mulA ox_mul ha hb
theorem de_mod (ha : DE X a fa) (hb : DE X b fb) : DE X (.BinOp a .Mod b pos) (fOp kMod fa fb) := de_bin op_mod ox_mod ha hb
theorem de_div (ha : DE X a fa) (hb : DE X b fb) : DE X (.BinOp a .FloorDiv b pos) (fOp kDiv fa fb) := de_bin op_fdivW ox_div ha hb
theorem de_pow (ha : DE X a fa) (hb : DE X b fb) : DE X (.BinOp a .Pow b pos) (fOp kPow fa fb) := de_bin op_powA ox_pow ha hb

/-! ### in -/
/-- a key -/
def kD : Key → D
  | .inl i => .int i
  | .inr x => .str x
def keyOf : D → Option Key
  | .int i => some (.inl i)
  | .str x => some (.inr x)
  | _ => none
theorem keyOf_rep {w : Wd} {d : D} {k : Key} {v : V} (h : keyOf d = some k) (r : Rep w d v) : v = kV k := by
  cases d <;> first | cases h | skip
  · exact r
  · exact r
variable {β : Type}
def valD (kvs : List (Key × β)) (k : Key) : Option β := (kvs.find? fun kv => decide (kv.1 = k)).map (·.2)
def putD (kvs : List (Key × β)) (k : Key) (v : β) : List (Key × β) :=
  if (kvs.any fun kv => decide (kv.1 = k)) = true then kvs.map (fun kv => if kv.1 = k then (kv.1, v) else kv) else kvs ++ [(k, v)]
def dropD (kvs : List (Key × β)) (k : Key) : List (Key × β) := kvs.filter fun kv => decide (kv.1 ≠ k)
end
section
variable {w : Wd}
theorem RepK.val : ∀ {ds : List (Key × D)} {vs : List (Key × V)} {k : Key}, RepK w ds vs → (∀ d, valD ds k = some d → ∃ v, valV vs k = some v ∧ Rep w d v) ∧ (valD ds k = none → valV vs k = none)
  | [], _, k, h => by
    subst h
    exact ⟨fun d e => by simp [valD] at e, fun _ => rfl⟩
  | (j, d) :: ds, _, k, ⟨v, us, e1, h1, h2⟩ => by
    subst e1
    obtain ⟨a, b⟩ := RepK.val (k := k) h2
    by_cases e : j = k
    · subst e
      refine ⟨fun d' q => ?_, fun q => ?_⟩
      · simp [valD] at q; subst q
        exact ⟨v, by simp [valV], h1⟩
      · simp [valD] at q
    · have hd : valD ((j, d) :: ds) k = valD ds k := by simp [valD, List.find?_cons, e]
      have hv : valV ((j, v) :: us) k = valV us k := by simp [valV, List.find?_cons, e]
      rw [hd, hv]
      exact ⟨a, b⟩
theorem RepK.any {ds : List (Key × D)} {vs : List (Key × V)} (h : RepK w ds vs) (k : Key) : (vs.any fun kv => decide (kv.1 = k)) = ds.any fun kv => decide (kv.1 = k) := by
  have e := h.keys
  have : ∀ {γ : Type} (l : List (Key × γ)), (l.any fun kv => decide (kv.1 = k)) = (l.map (·.1)).any fun j => decide (j = k) := fun l => by rw [List.any_map]; rfl
  rw [this, this, e]
theorem RepK.append : ∀ {ds es : List (Key × D)} {vs us : List (Key × V)}, RepK w ds vs → RepK w es us → RepK w (ds ++ es) (vs ++ us)
  | [], _, _, _, h, h' => by subst h; exact h'
  | (k, d) :: ds, _, _, _, ⟨v, ws, e1, h1, h2⟩, h' => by subst e1; exact ⟨v, _, rfl, h1, RepK.append h2 h'⟩
theorem RepK.repl {k : Key} {d : D} {v : V} (hr : Rep w d v) : ∀ {ds : List (Key × D)} {vs : List (Key × V)}, RepK w ds vs → RepK w (ds.map fun kv => if kv.1 = k then (kv.1, d) else kv) (vs.map fun kv => if kv.1 = k then (kv.1, v) else kv)
  | [], _, h => by subst h; rfl
  | (j, d') :: ds, _, ⟨v', ws, e1, h1, h2⟩ => by
    subst e1
    rw [List.map_cons, List.map_cons]
    by_cases e : j = k
    · rw [if_pos e, if_pos e]; exact ⟨v, _, rfl, hr, RepK.repl hr h2⟩
    · rw [if_neg e, if_neg e]; exact ⟨v', _, rfl, h1, RepK.repl hr h2⟩
theorem RepK.put {ds : List (Key × D)} {vs : List (Key × V)} (h : RepK w ds vs) (k : Key) {d : D} {v : V} (hr : Rep w d v) : RepK w (putD ds k d) (putK vs k v) := by
  unfold putD putK
  rw [h.any k]
  split
  · exact RepK.repl hr h
  · exact h.append ⟨v, [], rfl, hr, rfl⟩
theorem RepK.drop {k : Key} : ∀ {ds : List (Key × D)} {vs : List (Key × V)}, RepK w ds vs → RepK w (dropD ds k) (dropK vs k)
  | [], _, h => by subst h; rfl
  | (j, d) :: ds, _, ⟨v, ws, e1, h1, h2⟩ => by
    subst e1
    unfold dropD dropK
    rw [List.filter_cons, List.filter_cons]
    by_cases e : j = k
    · rw [if_neg (by simp [e]), if_neg (by simp [e])]; exact RepK.drop h2
    · rw [if_pos (by simp [e]), if_pos (by simp [e])]; exact ⟨v, _, rfl, h1, RepK.drop h2⟩
end
section
variable {X : Cx} {a b c e : Expr} {pos : Pos} {fa fb fc : WE}
def rDIn (neg : Bool) : R2 := fun y x H Q => ∃ a o, x = .ref a ∧ DGet H a y o ∧ Q (.bl (if neg then !o.isSome else o.isSome)) H
theorem op_dIn (hu : X.A.units + 1 < cLine) : OpR X (compareOp .In) (rDIn false) := by
  intro pins s σ H x y v u Q I rx ry h
  obtain ⟨a, o, rfl, g, q⟩ := h
  cases ry
  exact d_in hu I g rx fun s3 I3 => ⟨.bl o.isSome, H, I3, rfl, q⟩
theorem op_dNotIn (hu : X.A.units + 1 < cLine) : OpR X (compareOp .NotIn) (rDIn true) := by
  intro pins s σ H x y v u Q I rx ry h
  obtain ⟨a, o, rfl, g, q⟩ := h
  cases ry
  exact d_notIn hu I g rx fun s3 I3 => ⟨.bl (!o.isSome), H, I3, rfl, q⟩
/-- x in a text, a dict, a list, a tuple -/
def inS (x y : Str) : Bool := !(Builtin.Str.occurrences y x 0 y.length 1).isEmpty
def inL (x : D) (ys : List D) : Bool := ys.any fun z => eqD z x
def kIn (neg : Bool) : KK := fun a b P => match b with
  | .str y => ∃ x, a = .str x ∧ P (.val (.bl (neg ^^ inS x y)))
  | .dic kvs => ∃ k, keyOf a = some k ∧ P (.val (.bl (neg ^^ (valD kvs k).isSome)))
  | .lst ys => ((flatD a = true ∧ ys.all flatD = true) ∨ (shp a = true ∧ shp (.lst ys) = true)) ∧ P (.val (.bl (neg ^^ inL a ys)))
  | .tup ys => (flatD a = true ∧ ys.all flatD = true) ∧ P (.val (.bl (neg ^^ inL a ys)))
  | _ => False
def rInA (K : PySem.W.Frag) (neg : Bool) : R2 := fun x y H Q => (∃ i j, x = .str i ∧ y = .str j ∧ Q (.bl (neg ^^ inS i j)) H) ∨ rDIn neg x y H Q ∨
  (∃ d ds, Dp K H x d ∧ Dp K H y (.list ds) ∧ SeqAt.shaped d = true ∧ SeqAt.shaped (.list ds) = true ∧ Q (.bl (neg ^^ (ds.any fun z => PyData.eqv z d))) H) ∨ rIn K neg x y H Q
theorem op_inA (hu : X.A.units + 65 < cLine) : OpR X (compareOp .In) (rInA X.K false) := by
  refine OpR.or ?_ ((op_dIn (by omega)).or (OpR.or ?_ op_in_seq))
  · intro pins s σ H x y v u Q I rx ry h
    obtain ⟨i, j, h1, h2, q⟩ := h
    rw [Bool.false_xor] at q
    exact op_in_str pins s σ H x y v u Q I rx ry ⟨i, j, h1, h2, q⟩
  · intro pins s σ H x y v u Q I rx ry h
    obtain ⟨d, ds, h1, h2, h3, h4, q⟩ := h
    rw [Bool.false_xor] at q
    exact op_inD hu pins s σ H x y v u Q I rx ry ⟨d, ds, h1, h2, h3, h4, q⟩
theorem op_notInA (hu : X.A.units + 65 < cLine) : OpR X (compareOp .NotIn) (rInA X.K true) := by
  refine OpR.or ?_ ((op_dNotIn (by omega)).or (OpR.or ?_ op_notIn_seq))
  · intro pins s σ H x y v u Q I rx ry h
    obtain ⟨i, j, h1, h2, q⟩ := h
    rw [Bool.true_xor] at q
    exact op_notIn_str pins s σ H x y v u Q I rx ry ⟨i, j, h1, h2, q⟩
  · intro pins s σ H x y v u Q I rx ry h
    obtain ⟨d, ds, h1, h2, h3, h4, q⟩ := h
    rw [Bool.true_xor] at q
    exact op_notInD hu pins s σ H x y v u Q I rx ry ⟨d, ds, h1, h2, h3, h4, q⟩
theorem flat_rep {w : Wd} {d : D} {v : V} (h : flatD d = true) (r : Rep w d v) : flatV v = true := by
  cases d <;> first | (cases h; done) | skip
  all_goals (cases r; rfl)
theorem flat_eq {w : Wd} {d e : D} {v u : V} (h : flatD d = true) (h' : flatD e = true) (r : Rep w d v) (r' : Rep w e u) : eqV v u = eqD d e := by
  cases d <;> first | (cases h; done) | skip
  all_goals (cases e <;> first | (cases h'; done) | skip)
  all_goals (cases r; cases r'; simp [eqV, eqD, toPy, PyData.eqv])
theorem inL_rep {w : Wd} {d : D} {v : V} (h : flatD d = true) (r : Rep w d v) : ∀ {ys : List D} {vs : List V}, ys.all flatD = true → RepL w ys vs → vs.all flatV = true ∧ inV v vs = inL d ys
  | [], _, _, hr => by subst hr; exact ⟨rfl, rfl⟩
  | y :: ys, _, hf, ⟨u, us, e1, h1, h2⟩ => by
    subst e1
    rw [List.all_cons, Bool.and_eq_true] at hf
    obtain ⟨a1, a2⟩ := inL_rep h r hf.2 h2
    refine ⟨by rw [List.all_cons, flat_rep hf.1 h1, a1]; rfl, ?_⟩
    unfold inV inL at *
    rw [List.any_cons, List.any_cons, flat_eq hf.1 h h1 r, a2]
theorem ox_in {neg : Bool} : OpX X (rInA X.K neg) (kIn neg) := by
  intro w H a b x y P Q le ra rb hk hq
  unfold kIn at hk
  split at hk
  · obtain ⟨z, rfl, hp⟩ := hk
    cases (show x = .str _ from ra)
    cases (show y = .str _ from rb)
    exact .inl ⟨_, _, rfl, rfl, hq.old _ (.bl _) rfl hp⟩
  · obtain ⟨k, hk, hp⟩ := hk
    obtain ⟨l, vs, rfl, h1, h2⟩ := (show ∃ a vs, y = .ref a ∧ Rd H a (.dK vs) ∧ RepK w _ vs from rb)
    have ra' : Rep w a x := by cases a <;> first | exact ra | cases hk
    obtain rfl := keyOf_rep hk ra'
    refine .inr (.inl ⟨l, valV vs k, rfl, .inl ⟨vs, k, h1, rfl, rfl⟩, hq.old _ (.bl _) rfl ?_⟩)
    rename_i kvs
    have e : (valV vs k).isSome = (valD kvs k).isSome := by
      obtain ⟨g1, g2⟩ := h2.val (k := k)
      cases q : valD kvs k with
      | none => rw [g2 q]; rfl
      | some d => obtain ⟨v, g, _⟩ := g1 d q; rw [g]; rfl
    rw [e]
    cases neg
    · rw [Bool.false_xor] at hp; exact hp
    · rw [Bool.true_xor] at hp; exact hp
  · obtain ⟨hc, hp⟩ := hk
    rename_i ys
    rcases hc with ⟨s1, s2⟩ | ⟨s1, s2⟩
    · obtain ⟨l, vs, rfl, h1, h2⟩ := (show ∃ a vs, y = .ref a ∧ Rd H a (.lst vs) ∧ RepL w _ vs from rb)
      have ra' := flat_repT s1 ra
      obtain ⟨g1, g2⟩ := inL_rep s1 ra' s2 h2
      refine .inr (.inr (.inr ⟨l, vs, rfl, .inl (.inl h1), flat_rep s1 ra', g1, hq.old _ (.bl _) rfl ?_⟩))
      rw [g2]
      cases neg
      · rw [Bool.false_xor] at hp; exact hp
      · rw [Bool.true_xor] at hp; exact hp
    · refine .inr (.inr (.inl ⟨toPy a, toPyL ys, repT_dp le ra (shp_lay s1), repT_dp le rb (shp_lay s2), s1, s2, hq.old _ (.bl _) rfl ?_⟩))
      rw [toPyL_map, List.any_map]; exact hp
  · obtain ⟨⟨s1, s2⟩, hp⟩ := hk
    obtain ⟨l, vs, rfl, h1, h2⟩ := (show ∃ a vs, y = .ref a ∧ w.F a = some (.tup vs) ∧ RepL w _ vs from rb)
    have ra' : Rep w a x := by cases a <;> first | exact ra | cases s1
    obtain ⟨g1, g2⟩ := inL_rep s1 ra' s2 h2
    refine .inr (.inr (.inr ⟨l, vs, rfl, .inr (.inl (le _ _ h1)), flat_rep s1 ra', g1, hq.old _ (.bl _) rfl ?_⟩))
    rw [g2]
    cases neg
    · rw [Bool.false_xor] at hp; exact hp
    · rw [Bool.true_xor] at hp; exact hp
  · exact hk.elim
theorem de_in (hu : X.A.units + 65 < cLine) (ha : DE X a fa) (hb : DE X b fb) (hm : behindInMarks .In b = false := by rfl) : DE X (.Compare a [.In] [b] pos) (fOp (kIn false) fa fb) := de_cmp (op_inA hu) ox_in hm ha hb
theorem de_notin (hu : X.A.units + 65 < cLine) (ha : DE X a fa) (hb : DE X b fb) (hm : behindInMarks .NotIn b = false := by rfl) : DE X (.Compare a [.NotIn] [b] pos) (fOp (kIn true) fa fb) := de_cmp (op_notInA hu) ox_in hm ha hb
end
end Vl
namespace Vl
open PySem PySem.Spec L2
open PyProof.Rows hiding St

section
variable {X : Cx} {a b c e : Expr} {pos : Pos} {fa fb fc f : WE}
/-! ### places -/
theorem ix_dict (hu : X.A.units + 1 < cLine) : IxR X (fun x y H Q => ∃ a v, x = .ref a ∧ DGet H a y (some v) ∧ Q v H) := by
  intro value slice pins s σ H x y v u Q I rx ry h hs
  obtain ⟨a, z, rfl, g, q⟩ := h
  cases rx
  have hT := dict_typeIs I g
  unfold subscriptTail
  refine wpAny_bind ?_
  rw [getitemInPython_of_ne hT.not_modules]
  refine wpAny_bind (wpAny_specialOf hT PySem.F.slot_dict_getitem.lookup ?_)
  have fin : wpAny (model X.prog X.w) X.A (subscripted slice false (.ref a) u) (fun r s₃ => wpAny (model X.prog X.w) X.A (letTemporaryGo value (.ref a) r >>= fun _ => pure r) (EP X pins σ Q) X.xe s₃) X.xe s := by
    rw [hs]
    exact wpAny_operating (wpAny_mono (d_getItem hu I g ry fun w' s3 I3 rw' => (⟨z, H, I3, rw', q⟩ : EP X pins σ Q w' s3)) (fun r s₃ h₃ => wpAny_bind (wpAny_letTemporaryGo (wpAny_pure h₃))) fun _ _ x => x)
  first
    | exact wpAny_pure (wpAny_bind fin)
    | exact wpAny_bind (wpAny_pure (wpAny_bind fin))
    | exact wpAny_bind fin
def kIx : KK := fun a b P => match a with
  | .lst xs => ∃ i d, b = .int i ∧ atI xs i = some d ∧ P (.val d)
  | .tup xs => ∃ i d, b = .int i ∧ atI xs i = some d ∧ P (.val d)
  | .str z => z.length ≤ sizeLine ∧ ∃ i c, b = .int i ∧ atI z.cps.toList i = some c ∧ P (.val (.str ⟨#[c]⟩))
  | .dic kvs => ∃ k d, keyOf b = some k ∧ valD kvs k = some d ∧ P (.val d)
  | _ => False
def rIxA (K : PySem.W.Frag) : R2 := fun x y H Q => rIx K x y H Q ∨ ∃ a v, x = .ref a ∧ DGet H a y (some v) ∧ Q v H
theorem RepL.atI {w : Wd} {ds : List D} {vs : List V} {i : Int} {d : D} (h : RepL w ds vs) (e : atI ds i = some d) : ∃ v, L2.atI vs i = some v ∧ Rep w d v := by
  unfold L2.atI at *
  rw [h.length]
  cases q : ixN ds.length i with
  | none => rw [q] at e; cases e
  | some j =>
    rw [q] at e
    exact h.get e
theorem ox_ix : ∀ (w : Wd) (H : Hp) (a b : D) (x y : V) (P : Re → Prop) (Q : VK), Le w H → RepT w H a x → RepT w H b y → kIx a b P → Fin w H P Q → rIxA X.K x y H Q := by
  intro w H a b x y P Q le ra rb hk hq
  unfold kIx at hk
  split at hk
  · obtain ⟨i, d, rfl, e, hp⟩ := hk
    cases (show y = .int _ from rb)
    obtain ⟨l, vs, rfl, h1, h2⟩ := (show ∃ a vs, x = .ref a ∧ Rd H a (.lst vs) ∧ RepL w _ vs from ra)
    obtain ⟨v, e2, rv⟩ := h2.atI e
    exact .inl (.inl ⟨l, vs, i, v, rfl, rfl, .inl h1, e2, hq.old _ _ rv hp⟩)
  · obtain ⟨i, d, rfl, e, hp⟩ := hk
    cases (show y = .int _ from rb)
    obtain ⟨l, vs, rfl, h1, h2⟩ := (show ∃ a vs, x = .ref a ∧ w.F a = some (.tup vs) ∧ RepL w _ vs from ra)
    obtain ⟨v, e2, rv⟩ := h2.atI e
    exact .inl (.inr (.inl ⟨l, vs, i, v, rfl, rfl, .inl (le _ _ h1), e2, hq.old _ _ rv hp⟩))
  · obtain ⟨hz, i, c, rfl, e, hp⟩ := hk
    cases (show y = .int _ from rb)
    cases (show x = .str _ from ra)
    exact .inl (.inr (.inr ⟨_, i, c, rfl, rfl, hz, e, hq.old _ (.str _) rfl hp⟩))
  · obtain ⟨k, d, hk, e, hp⟩ := hk
    have rb' : Rep w b y := by cases b <;> first | exact rb | cases hk
    obtain rfl := keyOf_rep hk rb'
    obtain ⟨l, vs, rfl, h1, h2⟩ := (show ∃ a vs, x = .ref a ∧ Rd H a (.dK vs) ∧ RepK w _ vs from ra)
    obtain ⟨v, e2, rv⟩ := (h2.val (k := k)).1 d e
    exact .inr ⟨l, v, rfl, .inl ⟨vs, k, h1, rfl, e2.symm⟩, hq.old _ _ rv hp⟩
  · exact hk.elim
theorem de_ix (hu : X.A.units + 1 < cLine) (ha : DE X a fa) (hb : DE X b fb) (hs : PlainIx b := by exact fun _ _ => rfl) : DE X (.Subscript a b pos) (fOp kIx fa fb) := by
  obtain ⟨ta, tb, pa, pb, h2⟩ := two ha hb
  exact ⟨_, pe_ix (ix_seq.or (ix_dict hu)) pa pb hs, op_run (X := X) ox_ix h2⟩

/-! ### slices -/
abbrev WO := SS → (Option Int → SS → Prop) → Prop
def DO (X : Cx) (e : Option Expr) (f : WO) : Prop := ∃ t, PO X e t ∧ ∀ (B : Hp) (R : Addr → Prop) (w : Wd) (σ : St) (H : Hp) (ss : SS) (G : Option Int → SS → Prop) (Q : Option Int → Hp → Prop), Ok B R w σ H ss → f ss G →
  (∀ o H' ss' w', Ok B R w' σ H' ss' → Ext w w' → G o ss' → Q o H') → t σ H Q
def isI (r : Re) (k : Int → Prop) : Prop := match r with
  | .val (.int i) => k i
  | _ => False
def fNoO : WO := fun ss G => G none ss
theorem do_none : DO X none fNoO := ⟨_, po_none, fun B R w σ H ss G Q o hw hq => hq none H ss w o (.refl w) hw⟩
def fO (f : WE) : WO := fun ss G => f ss fun r s => isI r fun i => G (some i) s
theorem do_some (h : DE X e f) : DO X (some e) (fO f) := by
  obtain ⟨t, pe, hf⟩ := h
  refine ⟨_, po_some pe, fun B R w σ H ss G Q o hw hq => hf B R w σ H ss _ _ o hw fun v H' r ss' w' o' rr ex hg => ?_⟩
  unfold isI at hg
  split at hg
  · exact ⟨_, rr, hq _ H' ss' w' o' ex hg⟩
  · exact hg.elim
def cutL {α : Type} (xs : List α) (lo hi : Option Int) : List α := (xs.drop (HT.sIx xs.length 0 lo)).take (HT.sIx xs.length xs.length hi - HT.sIx xs.length 0 lo)
theorem RepL.cut {w : Wd} {ds : List D} {vs : List V} (h : RepL w ds vs) (lo hi : Option Int) : RepL w (cutL ds lo hi) (cutV vs lo hi) := by
  unfold cutL cutV
  rw [h.length]
  exact RepL.take _ (RepL.drop _ h)
def kSl (d : D) (lo hi : Option Int) (P : Re → Prop) : Prop := match d with
  | .lst xs => P (.new (.lst (cutL xs lo hi)))
  | .str z => z.length ≤ sizeLine ∧ P (.val (.str (cutS z lo hi)))
  | .tup xs => P (.val (.tup (cutL xs lo hi)))
  | _ => False
def rSlX (K : PySem.W.Frag) : V → Option Int → Option Int → Hp → VK → Prop := fun x lo hi H Q => rSlL K x lo hi H Q ∨ rSlS x lo hi H Q ∨ rSlA K x lo hi H Q
theorem cut_whole {α : Type} {xs : List α} {lo hi : Option Int} (h : HT.sIx xs.length 0 lo = 0 ∧ HT.sIx xs.length xs.length hi = xs.length) : cutL xs lo hi = xs := by
  unfold cutL
  rw [h.1, h.2]
  simp
def fSl (fa : WE) (fl fh : WO) : WE := fun ss G => fa ss fun r s1 => fl s1 fun lo s2 => fh s2 fun hi s3 => vw r s3 fun d => kSl d lo hi fun r => G r s3
theorem de_slice {lo hi : Option Expr} {p2 : Pos} {fl fh : WO} (ha : DE X a fa) (hl : DO X lo fl) (hh : DO X hi fh) : DE X (.Subscript a (.Slice lo hi none p2) pos) (fSl fa fl fh) := by
  obtain ⟨ta, pa, ka⟩ := ha
  obtain ⟨tl, pl, kl⟩ := hl
  obtain ⟨th, ph, kh⟩ := hh
  refine ⟨_, pe_slice (r := rSlX X.K) (sl_list.or (sl_str.or sl_tupA)) pa pl ph, fun B R w σ H ss G Q o hw hq => ka B R w σ H ss _ _ o hw fun x H1 r s1 w1 o1 r1 e1 h1 => ?_⟩
  obtain ⟨B', R', o1', hB, hR, back⟩ := o1.hold r1
  refine kl B' R' w1 σ H1 s1 _ _ o1' h1 fun lo H2 s2 w2 o2 e2 h2 => ?_
  refine kh B' R' w2 σ H2 s2 _ _ o2 h2 fun hi H3 s3 w3 o3 e3 h3 => ?_
  obtain ⟨o3', r1'⟩ := back w3 H3 s3 o3 (e2.trans e3)
  obtain ⟨d, rd, hk⟩ := vw_ok o3' r1' h3
  have fin := fin_of (G := G) o3' (e1.trans (e2.trans e3)) (fun _ h => h) hq
  have le := o3'.le
  unfold kSl at hk
  split at hk
  · obtain ⟨l, vs, rfl, h1, h2⟩ := (show ∃ a vs, x = .ref a ∧ Rd H3 a (.lst vs) ∧ RepL w3 _ vs from rd)
    exact .inl ⟨l, vs, rfl, .inl h1, fun p hp => fin.new p _ (.lst _) hp ⟨_, upd_same, h2.cut lo hi⟩ hk⟩
  · cases (show x = .str _ from rd)
    exact .inr (.inl ⟨_, rfl, hk.1, fin.old _ (.str _) rfl hk.2⟩)
  · obtain ⟨l, vs, rfl, h1, h2⟩ := (show ∃ a vs, x = .ref a ∧ w3.F a = some (.tup vs) ∧ RepL w3 _ vs from rd)
    refine .inr (.inr ⟨l, vs, rfl, .inl (le _ _ h1), fun z => fin.old _ (.tup _) ⟨l, vs, rfl, h1, ?_⟩ hk, fun z p hp => fin.tup p _ _ hp (h2.cut lo hi) hk⟩)
    have e : vs.length = _ := h2.length
    rw [e] at z
    rw [cut_whole z]; exact h2
  · exact hk.elim

/-! ### is None; signs; truth -/
def isNon : D → Bool
  | .non => true
  | _ => false
def noRaw : D → Bool
  | .raw _ => false
  | _ => true
def kIs (neg : Bool) : KK := fun a b P => b = .non ∧ noRaw a = true ∧ P (.val (.bl (neg ^^ isNon a)))
theorem isNon_rep {w : Wd} {H : Hp} {a : D} {x : V} (h : noRaw a = true) (r : RepT w H a x) : decide (x = .non) = isNon a := by
  cases a with
  | non => cases (show x = .non from r); rfl
  | bl _ => cases (show x = .bl _ from r); rfl
  | int _ => cases (show x = .int _ from r); rfl
  | str _ => cases (show x = .str _ from r); rfl
  | lst _ => obtain ⟨_, _, rfl, _⟩ := r; rfl
  | tup _ => obtain ⟨_, _, rfl, _⟩ := r; rfl
  | dic _ => obtain ⟨_, _, rfl, _⟩ := r; rfl
  | loc _ => obtain ⟨_, rfl, _⟩ := r; rfl
  | raw _ => cases h
theorem ox_is : OpX X (fun x y H Q => y = .non ∧ Q (.bl (decide (x = .non))) H) (kIs false) := by
  intro w H a b x y P Q le ra rb ⟨hb, hn, hp⟩ hq
  subst hb
  cases (show y = .non from rb)
  refine ⟨rfl, ?_⟩
  rw [isNon_rep hn ra]
  exact hq.old _ (.bl _) rfl (by rw [Bool.false_xor] at hp; exact hp)
theorem ox_isnot : OpX X (fun x y H Q => y = .non ∧ Q (.bl (!decide (x = .non))) H) (kIs true) := by
  intro w H a b x y P Q le ra rb ⟨hb, hn, hp⟩ hq
  subst hb
  cases (show y = .non from rb)
  refine ⟨rfl, ?_⟩
  rw [isNon_rep hn ra]
  exact hq.old _ (.bl _) rfl (by rw [Bool.true_xor] at hp; exact hp)
theorem de_is (ha : DE X a fa) (hb : DE X b fb) : DE X (.Compare a [.Is] [b] pos) (fOp (kIs false) fa fb) := de_cmp op_isN ox_is (nomark _) ha hb
theorem de_isnot (ha : DE X a fa) (hb : DE X b fb) : DE X (.Compare a [.IsNot] [b] pos) (fOp (kIs true) fa fb) := de_cmp op_notN ox_isnot (nomark _) ha hb
def fNeg (fa : WE) : WE := fun ss G => fa ss fun r s => isI r fun i => G (.val (.int (-i))) s
theorem de_neg (ha : DE X a fa) : DE X (.UnaryOp .USub a pos) (fNeg fa) := by
  obtain ⟨t, pe, hf⟩ := ha
  refine ⟨_, pe_un un_neg pe, fun B R w σ H ss G Q o hw hq => hf B R w σ H ss _ _ o hw fun v H' r ss' w' o' rr ex hg => ?_⟩
  unfold isI at hg
  split at hg
  · exact ⟨_, rr, hq _ H' (.val (.int _)) ss' w' o' rfl ex hg⟩
  · exact hg.elim
/-- a truth value -/
def isB (r : Re) (k : Bool → Prop) : Prop := match r with
  | .val (.bl i) => k i
  | _ => False
def fAnd (fa fb : WE) : WE := fun ss G => fa ss fun r s => isB r fun i => if i = true then fb s G else G (.val (.bl false)) s
def fOr (fa fb : WE) : WE := fun ss G => fa ss fun r s => isB r fun i => if i = true then G (.val (.bl true)) s else fb s G
def fNot (fa : WE) : WE := fun ss G => fa ss fun r s => isB r fun i => G (.val (.bl (!i))) s
theorem de_one {op} (ha : DE X a fa) : DE X (.BoolOp op [a] pos) fa := by
  obtain ⟨t, pe, hf⟩ := ha
  exact ⟨t, pe_one pe, hf⟩
theorem de_and {rest : List Expr} (ha : DE X a fa) (hb : DE X (.BoolOp .And (b :: rest) pos) fb) : DE X (.BoolOp .And (a :: b :: rest) pos) (fAnd fa fb) := by
  obtain ⟨t, pe, hf⟩ := ha
  obtain ⟨t2, pe2, hf2⟩ := hb
  refine ⟨_, pe_and pe pe2, fun B R w σ H ss G Q o hw hq => hf B R w σ H ss _ _ o hw fun v H' r ss' w' o' rr ex hg => ?_⟩
  unfold isB at hg
  split at hg
  · refine ⟨_, rr, ?_⟩
    split
    · rename_i h; rw [if_pos h] at hg
      exact hf2 B R w' σ H' ss' G Q o' hg fun v2 H2 r2 s2 w2 o2 rr2 e2 g2 => hq v2 H2 r2 s2 w2 o2 rr2 (ex.trans e2) g2
    · rename_i h; rw [if_neg h] at hg
      exact hq _ H' (.val (.bl false)) ss' w' o' rfl ex hg
  · exact hg.elim
theorem de_or {rest : List Expr} (ha : DE X a fa) (hb : DE X (.BoolOp .Or (b :: rest) pos) fb) : DE X (.BoolOp .Or (a :: b :: rest) pos) (fOr fa fb) := by
  obtain ⟨t, pe, hf⟩ := ha
  obtain ⟨t2, pe2, hf2⟩ := hb
  refine ⟨_, pe_or pe pe2, fun B R w σ H ss G Q o hw hq => hf B R w σ H ss _ _ o hw fun v H' r ss' w' o' rr ex hg => ?_⟩
  unfold isB at hg
  split at hg
  · refine ⟨_, rr, ?_⟩
    split
    · rename_i h; rw [if_pos h] at hg
      exact hq _ H' (.val (.bl true)) ss' w' o' rfl ex hg
    · rename_i h; rw [if_neg h] at hg
      exact hf2 B R w' σ H' ss' G Q o' hg fun v2 H2 r2 s2 w2 o2 rr2 e2 g2 => hq v2 H2 r2 s2 w2 o2 rr2 (ex.trans e2) g2
  · exact hg.elim
theorem de_not (ha : DE X a fa) : DE X (.UnaryOp .Not a pos) (fNot fa) := by
  obtain ⟨t, pe, hf⟩ := ha
  refine ⟨_, pe_not pe, fun B R w σ H ss G Q o hw hq => hf B R w σ H ss _ _ o hw fun v H' r ss' w' o' rr ex hg => ?_⟩
  unfold isB at hg
  split at hg
  · exact ⟨_, rr, hq _ H' (.val (.bl _)) ss' w' o' rfl ex hg⟩
  · exact hg.elim

/-! ### tests -/
def fT (f : WE) : WT := fun ss G => f ss fun r s => isB r fun i => G i s
theorem dt_of {t : TE} (pt : PT X e (tTest t)) (hf : ∀ (B : Hp) (R : Addr → Prop) (w : Wd) (σ : St) (H : Hp) (ss : SS) (G : Re → SS → Prop) (Q : VK), Ok B R w σ H ss → f ss G →
  (∀ v H' r ss' w', Ok B R w' σ H' ss' → RepR B R w' σ H' ss' r v → Ext w w' → G r ss' → Q v H') → t σ H Q) : DT X e (fT f) := by
  refine ⟨_, pt, fun B R w σ H ss G Q o hw hq => hf B R w σ H ss _ _ o hw fun v H' r ss' w' o' rr ex hg => ?_⟩
  unfold isB at hg
  split at hg
  · exact ⟨_, rr, hq _ H' ss' w' o' ex hg⟩
  · exact hg.elim
/-- an expression whose value is a truth value -/
theorem dt_val (h : DE X e f) (he : ∀ whole, isTrue e X.env whole = (do let v ← whole; standAt e.pos; holding [v] (truthy v)) := by intro _; rfl) : DT X e (fT f) := by
  obtain ⟨t, pe, hf⟩ := h
  exact dt_of (pt_val pe he) hf
theorem dt_cmp {op : CmpOp} {r : R2} {k : KK} (ho : OpR X (compareOp op) r) (hk : OpX X r k) (hm : behindInMarks op b = false) (ha : DE X a fa) (hb : DE X b fb) : DT X (.Compare a [op] [b] pos) (fT (fOp k fa fb)) := by
  obtain ⟨ta, tb, pa, pb, h2⟩ := two ha hb
  exact dt_of (pt_cmpR ho pa pb hm) (op_run hk h2)
theorem dt_eq (hu : X.A.units + 64 < cLine) (ha : DE X a fa) (hb : DE X b fb) : DT X (.Compare a [.Eq] [b] pos) (fT (fOp kEq fa fb)) := dt_cmp (op_eq.or (op_eqD hu)) ox_eq (nomark _) ha hb
theorem dt_ne (hu : X.A.units + 64 < cLine) (ha : DE X a fa) (hb : DE X b fb) : DT X (.Compare a [.NotEq] [b] pos) (fT (fOp kNe fa fb)) := dt_cmp (op_ne.or (op_neD hu)) ox_ne (nomark _) ha hb
theorem dt_lt (ha : DE X a fa) (hb : DE X b fb) : DT X (.Compare a [.Lt] [b] pos) (fT (fOp kLt fa fb)) := dt_cmp or_lt (ox_ord fun _ _ _ _ h => h) (nomark _) ha hb
theorem dt_gt (ha : DE X a fa) (hb : DE X b fb) : DT X (.Compare a [.Gt] [b] pos) (fT (fOp kGt fa fb)) := dt_cmp or_gt (ox_ord fun _ _ _ _ h => h) (nomark _) ha hb
theorem dt_le (ha : DE X a fa) (hb : DE X b fb) : DT X (.Compare a [.LtE] [b] pos) (fT (fOp kLe fa fb)) := dt_cmp or_le (ox_ord fun _ _ _ _ h => h) (nomark _) ha hb
theorem dt_ge (ha : DE X a fa) (hb : DE X b fb) : DT X (.Compare a [.GtE] [b] pos) (fT (fOp kGe fa fb)) := dt_cmp or_ge (ox_ord fun _ _ _ _ h => h) (nomark _) ha hb
theorem dt_in (hu : X.A.units + 65 < cLine) (ha : DE X a fa) (hb : DE X b fb) (hm : behindInMarks .In b = false := by rfl) : DT X (.Compare a [.In] [b] pos) (fT (fOp (kIn false) fa fb)) := dt_cmp (op_inA hu) ox_in hm ha hb
theorem dt_notin (hu : X.A.units + 65 < cLine) (ha : DE X a fa) (hb : DE X b fb) (hm : behindInMarks .NotIn b = false := by rfl) : DT X (.Compare a [.NotIn] [b] pos) (fT (fOp (kIn true) fa fb)) := dt_cmp (op_notInA hu) ox_in hm ha hb
theorem dt_is (ha : DE X a fa) (hb : DE X b fb) : DT X (.Compare a [.Is] [b] pos) (fT (fOp (kIs false) fa fb)) := dt_cmp op_isN ox_is (nomark _) ha hb
theorem dt_isnot (ha : DE X a fa) (hb : DE X b fb) : DT X (.Compare a [.IsNot] [b] pos) (fT (fOp (kIs true) fa fb)) := dt_cmp op_notN ox_isnot (nomark _) ha hb
/-- and, or, not as tests -/
def DW (X : Cx) (e : Expr) (f : WT) : Prop := ∃ t, PW X e t ∧ ∀ (B : Hp) (R : Addr → Prop) (w : Wd) (σ : St) (H : Hp) (ss : SS) (G : Bool → SS → Prop) (Q : Bool → Hp → Prop), Ok B R w σ H ss → f ss G →
  (∀ b H' ss' w', Ok B R w' σ H' ss' → Ext w w' → G b ss' → Q b H') → t σ H Q
variable {ga gb gc : WT}
theorem dt_w (h : DW X e ga) : DT X e ga := by
  obtain ⟨t, p, hf⟩ := h
  exact ⟨t, p.pt, hf⟩
theorem dw_and1 (ha : DT X a ga) : DW X (.BoolOp .And [a] pos) ga := by
  obtain ⟨t, p, hf⟩ := ha
  exact ⟨t, pw_and1 p, hf⟩
theorem dw_or1 (ha : DT X a ga) : DW X (.BoolOp .Or [a] pos) ga := by
  obtain ⟨t, p, hf⟩ := ha
  exact ⟨t, pw_or1 p, hf⟩
def gAnd (ga gb : WT) : WT := fun ss G => ga ss fun c s => if c = true then gb s G else G false s
def gOr (ga gb : WT) : WT := fun ss G => ga ss fun c s => if c = true then G true s else gb s G
def gNot (ga : WT) : WT := fun ss G => ga ss fun c s => G (!c) s
theorem dw_and {rest : List Expr} (ha : DT X a ga) (hb : DW X (.BoolOp .And (b :: rest) pos) gb) : DW X (.BoolOp .And (a :: b :: rest) pos) (gAnd ga gb) := by
  obtain ⟨t, p, hf⟩ := ha
  obtain ⟨t2, p2, hf2⟩ := hb
  refine ⟨_, pw_and p p2, fun B R w σ H ss G Q o hw hq => hf B R w σ H ss _ _ o hw fun c H' ss' w' o' ex hg => ?_⟩
  split
  · rename_i h; rw [if_pos h] at hg
    exact hf2 B R w' σ H' ss' G Q o' hg fun v2 H2 s2 w2 o2 e2 g2 => hq v2 H2 s2 w2 o2 (ex.trans e2) g2
  · rename_i h; rw [if_neg h] at hg
    exact hq _ H' ss' w' o' ex hg
theorem dw_or {rest : List Expr} (ha : DT X a ga) (hb : DW X (.BoolOp .Or (b :: rest) pos) gb) : DW X (.BoolOp .Or (a :: b :: rest) pos) (gOr ga gb) := by
  obtain ⟨t, p, hf⟩ := ha
  obtain ⟨t2, p2, hf2⟩ := hb
  refine ⟨_, pw_or p p2, fun B R w σ H ss G Q o hw hq => hf B R w σ H ss _ _ o hw fun c H' ss' w' o' ex hg => ?_⟩
  split
  · rename_i h; rw [if_pos h] at hg
    exact hq _ H' ss' w' o' ex hg
  · rename_i h; rw [if_neg h] at hg
    exact hf2 B R w' σ H' ss' G Q o' hg fun v2 H2 s2 w2 o2 e2 g2 => hq v2 H2 s2 w2 o2 (ex.trans e2) g2
theorem dt_not (ha : DT X a ga) : DT X (.UnaryOp .Not a pos) (gNot ga) := by
  obtain ⟨t, p, hf⟩ := ha
  exact ⟨_, pt_not p, fun B R w σ H ss G Q o hw hq => hf B R w σ H ss _ _ o hw fun c H' ss' w' o' ex hg => hq _ H' ss' w' o' ex hg⟩
/-- a if t else b -/
def fIf (g : WT) (fa fb : WE) : WE := fun ss G => g ss fun c s => if c = true then fa s G else fb s G
theorem de_if (hc : DT X c gc) (ha : DE X a fa) (hb : DE X b fb) : DE X (.IfExp c a b pos) (fIf gc fa fb) := by
  obtain ⟨t, p, hf⟩ := hc
  obtain ⟨t1, p1, hf1⟩ := ha
  obtain ⟨t2, p2, hf2⟩ := hb
  refine ⟨_, pe_ifExp p p1 p2, fun B R w σ H ss G Q o hw hq => hf B R w σ H ss _ _ o hw fun c H' ss' w' o' ex hg => ?_⟩
  split
  · rename_i h; rw [if_pos h] at hg
    exact hf1 B R w' σ H' ss' G Q o' hg fun v2 H2 r2 s2 w2 o2 rr2 e2 g2 => hq v2 H2 r2 s2 w2 o2 rr2 (ex.trans e2) g2
  · rename_i h; rw [if_neg h] at hg
    exact hf2 B R w' σ H' ss' G Q o' hg fun v2 H2 r2 s2 w2 o2 rr2 e2 g2 => hq v2 H2 r2 s2 w2 o2 rr2 (ex.trans e2) g2
end
end Vl
namespace Vl
open PySem PySem.Spec L2
open PyProof.Rows hiding St

section
variable {X : Cx} {a b c e : Expr} {es : List Expr} {pos : Pos} {fa fb fc f : WE} {fv : WV} {fs : WA}
/-! ### displays, arguments -/
def fNil : WA := fun ss G => G [] ss
def fCons (fv : WV) (fs : WA) : WA := fun ss G => fv ss fun d s => fs s fun ds s => G (d :: ds) s
theorem da_nil : DA X [] fNil := ⟨_, pa_nil, fun B R w σ H ss G Q o hw hq => hq [] H [] ss w o rfl (.refl w) hw⟩
theorem da_cons (ha : DV X e fv) (hr : DA X es fs) (hs : starEach (e :: es) X.env = (false, eval e X.env) :: starEach es X.env := by rfl) : DA X (e :: es) (fCons fv fs) := by
  obtain ⟨t, p, hf⟩ := ha
  obtain ⟨t2, p2, hf2⟩ := hr
  refine ⟨_, pa_cons p p2 hs, fun B R w σ H ss G Q o hw hq => hf B R w σ H ss _ _ o hw fun v H1 d s1 w1 o1 r1 e1 h1 => ?_⟩
  exact hf2 B R w1 σ H1 s1 _ _ o1 h1 fun vs H2 ds s2 w2 o2 r2 e2 h2 => hq (v :: vs) H2 (d :: ds) s2 w2 o2 ⟨v, vs, rfl, r1.ext e2, r2⟩ (e1.trans e2) h2
def fTup (fs : WA) : WE := fun ss G => fs ss fun ds s => ds.length ≤ sizeLine ∧ G (.val (.tup ds)) s
def fLst (fs : WA) : WE := fun ss G => fs ss fun ds s => ds.length ≤ sizeLine ∧ G (.new (.lst ds)) s
theorem de_tup {x1} (h : DA X es fs) : DE X (.Tuple es x1 pos) (fTup fs) := by
  obtain ⟨t, p, hf⟩ := h
  refine ⟨_, pe_tup p, fun B R w σ H ss G Q o hw hq => hf B R w σ H ss _ _ o hw fun vs H1 ds s1 w1 o1 r1 e1 h1 => ⟨by rw [r1.length]; exact h1.1, fun p hp => ?_⟩⟩
  obtain ⟨o2, e2, r2⟩ := tup_ok o1 hp r1
  exact hq _ _ (.val (.tup ds)) s1 _ o2 r2 (e1.trans e2) h1.2
theorem de_lst (h : DA X es fs) : DE X (.List es pos) (fLst fs) := by
  obtain ⟨t, p, hf⟩ := h
  refine ⟨_, pe_lst p, fun B R w σ H ss G Q o hw hq => hf B R w σ H ss _ _ o hw fun vs H1 ds s1 w1 o1 r1 e1 h1 => ⟨by rw [r1.length]; exact h1.1, fun p hp => ?_⟩⟩
  obtain ⟨o2, r2⟩ := new_ok (c := .lst ds) o1 hp ⟨vs, upd_same, r1⟩
  exact hq _ _ (.new (.lst ds)) s1 w1 o2 r2 e1 h1.2
def fDnew : WE := fun ss G => G (.new (.dic [])) ss
theorem de_dnew : DE X (.Dict [] [] pos) fDnew := by
  refine ⟨_, pe_dnewK, fun B R w σ H ss G Q o hw hq p hp => ?_⟩
  obtain ⟨o2, r2⟩ := new_ok (c := .dic []) (u := .dK []) o hp ⟨[], upd_same, rfl⟩
  exact hq _ _ (.new (.dic [])) ss w o2 r2 (.refl w) hw

/-! ### operands held -/
def RepRs (B : Hp) (R : Addr → Prop) (w : Wd) (σ : St) (H : Hp) (ss : SS) : List Re → List V → Prop
  | [], vs => vs = []
  | r :: rs, vs => ∃ v us, vs = v :: us ∧ RepR B R w σ H ss r v ∧ RepRs B R w σ H ss rs us
def RepTs (w : Wd) (H : Hp) : List D → List V → Prop
  | [], vs => vs = []
  | d :: ds, vs => ∃ v us, vs = v :: us ∧ RepT w H d v ∧ RepTs w H ds us
abbrev WR := SS → (List Re → SS → Prop) → Prop
def DR (X : Cx) (es : List Expr) (f : WR) : Prop := ∃ t, PA X es t ∧ ∀ (B : Hp) (R : Addr → Prop) (w : Wd) (σ : St) (H : Hp) (ss : SS) (G : List Re → SS → Prop) (Q : List V → Hp → Prop), Ok B R w σ H ss → f ss G →
  (∀ vs H' rs ss' w', Ok B R w' σ H' ss' → RepRs B R w' σ H' ss' rs vs → Ext w w' → G rs ss' → Q vs H') → t σ H Q
def rNil : WR := fun ss G => G [] ss
def rCons (f : WE) (fs : WR) : WR := fun ss G => f ss fun r s => fs s fun rs s => G (r :: rs) s
theorem RepRs.weak {B B' : Hp} {R R' : Addr → Prop} {w : Wd} {σ : St} {H : Hp} {ss : SS} (hB : ∀ b, B' b = none → B b = none) (hR : ∀ a, R a → R' a) : ∀ {rs : List Re} {vs : List V}, RepRs B' R' w σ H ss rs vs → RepRs B R w σ H ss rs vs
  | [], _, h => h
  | r :: rs, _, ⟨v, us, e, h1, h2⟩ => ⟨v, us, e, h1.weak hB hR, RepRs.weak hB hR h2⟩
theorem dr_nil : DR X [] rNil := ⟨_, pa_nil, fun B R w σ H ss G Q o hw hq => hq [] H [] ss w o rfl (.refl w) hw⟩
theorem dr_cons {fs : WR} (ha : DE X e f) (hr : DR X es fs) (hs : starEach (e :: es) X.env = (false, eval e X.env) :: starEach es X.env := by rfl) : DR X (e :: es) (rCons f fs) := by
  obtain ⟨t, p, hf⟩ := ha
  obtain ⟨t2, p2, hf2⟩ := hr
  refine ⟨_, pa_cons p p2 hs, fun B R w σ H ss G Q o hw hq => hf B R w σ H ss _ _ o hw fun v H1 d s1 w1 o1 r1 e1 h1 => ?_⟩
  obtain ⟨B', R', o1', hB, hR, back⟩ := o1.hold r1
  refine hf2 B' R' w1 σ H1 s1 _ _ o1' h1 fun vs H2 ds s2 w2 o2 r2 e2 h2 => ?_
  obtain ⟨o2', r1'⟩ := back w2 H2 s2 o2 e2
  exact hq (v :: vs) H2 (d :: ds) s2 w2 o2' ⟨v, vs, rfl, r1', r2.weak hB hR⟩ (e1.trans e2) h2
def vws : List Re → SS → (List D → Prop) → Prop
  | [], _, k => k []
  | r :: rs, ss, k => vw r ss fun d => vws rs ss fun ds => k (d :: ds)
theorem vws_ok {B : Hp} {R : Addr → Prop} {w : Wd} {σ : St} {H : Hp} {ss : SS} (o : Ok B R w σ H ss) : ∀ {rs : List Re} {vs : List V} {k : List D → Prop}, RepRs B R w σ H ss rs vs → vws rs ss k → ∃ ds, RepTs w H ds vs ∧ k ds
  | [], _, k, h, hk => ⟨[], h, hk⟩
  | r :: rs, _, k, ⟨v, us, e, h1, h2⟩, hk => by
    obtain ⟨d, rd, hk⟩ := vw_ok o h1 hk
    obtain ⟨ds, rds, hk⟩ := vws_ok o h2 hk
    exact ⟨d :: ds, ⟨v, us, e, rd, rds⟩, hk⟩
abbrev KC := List D → (Re → Prop) → Prop
def CallX (r : List V → Hp → VK → Prop) (k : KC) : Prop := ∀ (w : Wd) (H : Hp) (ds : List D) (vs : List V) (P : Re → Prop) (Q : VK), Le w H → RepTs w H ds vs → k ds P → Fin w H P Q → r vs H Q
def fBlt (k : KC) (fs : WR) : WE := fun ss G => fs ss fun rs s => vws rs s fun ds => k ds fun r => G r s
variable {fr : WR} {x : Str} {p : Pos} {id T : String} {r : List V → Hp → VK → Prop} {k : KC}
theorem de_blt (hc : CallR X (.builtin id) r) (hk : CallX r k) (hm : X.mg x = none) (hv : bootBuiltins x = some (.builtin id)) (hg : Gl X x) (ha : DR X (e :: es) fr) (hn : x ≠ "__name__" := by decide) (hdb : (x == ("__debug__" : Str)) = false := by decide)
    (he : starEach (e :: es) X.env = (false, eval e X.env) :: starEach es X.env := by rfl) (hpl : (backTo pos (starEach es X.env)).any (·.1) = false := by rfl) : DE X (.Call (.Name x p) (e :: es) [] pos) (fBlt k fr) := by
  obtain ⟨t, pa, hf⟩ := ha
  refine ⟨_, pe_callB hc hg hm hv pa hn hdb he hpl, fun B R w σ H ss G Q o hw hq => hf B R w σ H ss _ _ o hw fun vs H1 rs s1 w1 o1 r1 e1 h1 => ?_⟩
  obtain ⟨ds, rd, hk'⟩ := vws_ok o1 r1 h1
  exact hk w1 H1 ds vs _ Q o1.le rd hk' (fin_of o1 e1 (fun _ h => h) hq)
theorem de_bty (hc : CallR X (.type T) r) (hk : CallX r k) (hm : X.mg x = none) (hv : bootBuiltins x = some (.type T)) (hg : Gl X x) (ha : DR X (e :: es) fr) (hn : x ≠ "__name__" := by decide) (hdb : (x == ("__debug__" : Str)) = false := by decide)
    (he : starEach (e :: es) X.env = (false, eval e X.env) :: starEach es X.env := by rfl) (hpl : (backTo pos (starEach es X.env)).any (·.1) = false := by rfl) : DE X (.Call (.Name x p) (e :: es) [] pos) (fBlt k fr) := by
  obtain ⟨t, pa, hf⟩ := ha
  refine ⟨_, pe_callTy hc hg hm hv pa hn hdb he hpl, fun B R w σ H ss G Q o hw hq => hf B R w σ H ss _ _ o hw fun vs H1 rs s1 w1 o1 r1 e1 h1 => ?_⟩
  obtain ⟨ds, rd, hk'⟩ := vws_ok o1 r1 h1
  exact hk w1 H1 ds vs _ Q o1.le rd hk' (fin_of o1 e1 (fun _ h => h) hq)
/-- one argument, two -/
def k1 (k : D → (Re → Prop) → Prop) : KC := fun ds P => match ds with
    | [d] => k d P
    | _ => False
def k2 (k : D → D → (Re → Prop) → Prop) : KC := fun ds P => match ds with
    | [d, d'] => k d d' P
    | _ => False
theorem callX1 {r : List V → Hp → VK → Prop} {k : D → (Re → Prop) → Prop} (h : ∀ (w : Wd) (H : Hp) (d : D) (v : V) (P : Re → Prop) (Q : VK), Le w H → RepT w H d v → k d P → Fin w H P Q → r [v] H Q) : CallX r (k1 k) := by
  intro w H ds vs P Q le rd hk hq
  cases ds with
  | nil => exact hk.elim
  | cons d ds =>
    cases ds with
    | nil =>
      obtain ⟨v, us, rfl, rv, e⟩ := rd
      subst e
      exact h w H d v P Q le rv hk hq
    | cons d' ds => exact hk.elim
theorem callX2 {r : List V → Hp → VK → Prop} {k : D → D → (Re → Prop) → Prop} (h : ∀ (w : Wd) (H : Hp) (d d' : D) (v v' : V) (P : Re → Prop) (Q : VK), Le w H → RepT w H d v → RepT w H d' v' → k d d' P → Fin w H P Q → r [v, v'] H Q) : CallX r (k2 k) := by
  intro w H ds vs P Q le rd hk hq
  cases ds with
  | nil => exact hk.elim
  | cons d ds =>
    cases ds with
    | nil => exact hk.elim
    | cons d' ds =>
      cases ds with
      | nil =>
        obtain ⟨v, us, rfl, rv, v', us', rfl, rv', e⟩ := rd
        subst e
        exact h w H d d' v v' P Q le rv rv' hk hq
      | cons d'' ds => exact hk.elim
/-- len -/
def kLen : KC := k1 fun d P => match d with
  | .lst xs => P (.val (.int xs.length))
  | .tup xs => P (.val (.int xs.length))
  | .str x => x.length ≤ sizeLine ∧ P (.val (.int x.length))
  | .dic kvs => P (.val (.int kvs.length))
  | _ => False
def rLenA (K : PySem.W.Frag) : List V → Hp → VK → Prop := fun xs H Q => (∃ x n, xs = [x] ∧ LenV K x H n ∧ Q (.int n) H) ∨ ∃ a kvs, xs = [.ref a] ∧ Rd H a (.dK kvs) ∧ Q (.int kvs.length) H
theorem call_lenR : CallR X (.builtin "len") (fun xs H Q => ∃ a kvs, xs = [.ref a] ∧ Rd H a (.dK kvs) ∧ Q (.int kvs.length) H) := by
  intro pins s σ H xs us Q I rs h
  obtain ⟨a, kvs, rfl, hd, q⟩ := h
  obtain ⟨u, rfl, r⟩ := vals1 rs
  cases r
  exact d_len I hd fun t s' I' => ⟨.int kvs.length, H, I', ⟨t, rfl⟩, q⟩
theorem cx_len : CallX (rLenA X.K) kLen := callX1 fun w H d v P Q le rd hk hq => by
  split at hk
  · obtain ⟨l, vs, rfl, h1, h2⟩ := rd
    exact .inl ⟨_, vs.length, rfl, .inl ⟨vs, .inl h1, rfl⟩, hq.old _ (.int _) rfl (by rw [h2.length]; exact hk)⟩
  · obtain ⟨l, vs, rfl, h1, h2⟩ := (show ∃ a vs, v = .ref a ∧ w.F a = some (.tup vs) ∧ RepL w _ vs from rd)
    exact .inl ⟨_, vs.length, rfl, .inr ⟨vs, .inl (le _ _ h1), rfl⟩, hq.old _ (.int _) rfl (by rw [h2.length]; exact hk)⟩
  · cases (show v = .str _ from rd)
    exact .inl ⟨_, _, rfl, ⟨hk.1, rfl⟩, hq.old _ (.int _) rfl hk.2⟩
  · obtain ⟨l, vs, rfl, h1, h2⟩ := (show ∃ a vs, v = .ref a ∧ Rd H a (.dK vs) ∧ RepK w _ vs from rd)
    exact .inr ⟨l, vs, rfl, h1, hq.old _ (.int _) rfl (by rw [h2.length]; exact hk)⟩
  · exact hk.elim
theorem de_len (hm : X.mg "len" = none) (hg : Gl X "len" := by rfl) (ha : DR X [e] fr) (he : starEach [e] X.env = [(false, eval e X.env)] := by rfl) : DE X (.Call (.Name "len" p) [e] [] pos) (fBlt kLen fr) :=
  de_blt (call_len.or call_lenR) cx_len hm boot_len hg ha (by decide) (by decide) he rfl
/-- list(x) -/
def kList : KC := k1 fun d P => match d with
  | .lst xs => P (.new (.lst xs))
  | .tup xs => P (.new (.lst xs))
  | _ => False
theorem cx_list : CallX (fun xs H Q => ∃ p ys, xs = [.ref p] ∧ (SqL X.K H p ys ∨ SqT X.K H p ys) ∧ ∀ l, H l = none → Q (.ref l) (upd H l (.lst ys))) kList := callX1 fun w H d v P Q le rd hk hq => by
  split at hk
  · obtain ⟨l, vs, rfl, h1, h2⟩ := rd
    exact ⟨l, vs, rfl, .inl (.inl h1), fun p hp => hq.new p _ (.lst _) hp ⟨vs, upd_same, h2⟩ hk⟩
  · obtain ⟨l, vs, rfl, h1, h2⟩ := (show ∃ a vs, v = .ref a ∧ w.F a = some (.tup vs) ∧ RepL w _ vs from rd)
    exact ⟨l, vs, rfl, .inr (.inl (le _ _ h1)), fun p hp => hq.new p _ (.lst _) hp ⟨vs, upd_same, h2⟩ hk⟩
  · exact hk.elim
/-- sum of intsD -/
def intsD : List D → Option (List Int)
  | [] => some []
  | .int i :: r => (intsD r).map (i :: ·)
  | _ => none
theorem ints_map : ∀ ns : List Int, intsD (ns.map D.int) = some ns
  | [] => rfl
  | n :: ns => by rw [List.map_cons, intsD, ints_map ns]; rfl
theorem ints_of : ∀ {ds : List D} {ns : List Int}, intsD ds = some ns → ds = ns.map D.int
  | [], ns, h => by cases h; rfl
  | d :: ds, ns, h => by
    cases d <;> first | (cases h; done) | skip
    rw [intsD] at h
    cases q : intsD ds with
    | none => rw [q] at h; cases h
    | some ms => rw [q] at h; cases h; rw [List.map_cons, ints_of q]
def kSum : KC := k1 fun d P => match d with
  | .lst xs => ∃ ns, intsD xs = some ns ∧ P (.val (.int ns.sum))
  | _ => False
theorem cx_sum : CallX (rSum X.K) kSum := callX1 fun w H d v P Q le rd hk hq => by
  split at hk
  · obtain ⟨ns, h, hp⟩ := hk
    obtain rfl := ints_of h
    obtain ⟨l, vs, rfl, h1, h2⟩ := rd
    obtain rfl := h2.ints
    exact ⟨l, ns, rfl, .inl h1, hq.old _ (.int _) rfl hp⟩
  · exact hk.elim
theorem de_sum (hc : X.calm = true) (hm : X.mg "sum" = none) (hg : Gl X "sum" := by rfl) (ha : DR X [e] fr) (he : starEach [e] X.env = [(false, eval e X.env)] := by rfl) : DE X (.Call (.Name "sum" p) [e] [] pos) (fBlt kSum fr) :=
  de_blt (cr_sum hc) cx_sum hm boot_sum hg ha (by decide) (by decide) he rfl
/-- max(a, b), min(a, b) -/
def kMx : KC := k2 fun a b P => match a, b with
  | .int i, .int j => P (.val (.int (if j > i then j else i)))
  | _, _ => False
def kMn : KC := k2 fun a b P => match a, b with
  | .int i, .int j => P (.val (.int (if j < i then j else i)))
  | _, _ => False
theorem cx_max2 : CallX (fun xs H Q => ∃ i j, xs = [.int i, .int j] ∧ Q (.int (if j > i then j else i)) H) kMx := callX2 fun w H d d' v v' P Q le rd rd' hk hq => by
  split at hk
  · cases (show v = .int _ from rd)
    cases (show v' = .int _ from rd')
    exact ⟨_, _, rfl, hq.old _ (.int _) rfl hk⟩
  · exact hk.elim
theorem cx_min2 : CallX (fun xs H Q => ∃ i j, xs = [.int i, .int j] ∧ Q (.int (if j < i then j else i)) H) kMn := callX2 fun w H d d' v v' P Q le rd rd' hk hq => by
  split at hk
  · cases (show v = .int _ from rd)
    cases (show v' = .int _ from rd')
    exact ⟨_, _, rfl, hq.old _ (.int _) rfl hk⟩
  · exact hk.elim
theorem de_max2 (hc : X.calm = true) (hm : X.mg "max" = none) (hg : Gl X "max" := by rfl) (ha : DR X [a, b] fr) (he : starEach [a, b] X.env = (false, eval a X.env) :: starEach [b] X.env := by rfl) (hpl : (backTo pos (starEach [b] X.env)).any (·.1) = false := by rfl) : DE X (.Call (.Name "max" p) [a, b] [] pos) (fBlt kMx fr) :=
  de_blt (call_max2 hc) cx_max2 hm boot_max hg ha (by decide) (by decide) he hpl
theorem de_min2 (hc : X.calm = true) (hm : X.mg "min" = none) (hg : Gl X "min" := by rfl) (ha : DR X [a, b] fr) (he : starEach [a, b] X.env = (false, eval a X.env) :: starEach [b] X.env := by rfl) (hpl : (backTo pos (starEach [b] X.env)).any (·.1) = false := by rfl) : DE X (.Call (.Name "min" p) [a, b] [] pos) (fBlt kMn fr) :=
  de_blt (call_min2 hc) cx_min2 hm boot_min hg ha (by decide) (by decide) he hpl
end
end Vl
namespace Vl
open PySem PySem.Spec L2
open PyProof.Rows hiding St

/-! ### defs -/
/-- what a def promises: its arguments, the cells, what is wanted -/
abbrev Ct := List D → List C → (Re → List C → Prop) → Prop
open Classical in
noncomputable def bOf (w : Wd) (H : Hp) : Hp := fun a => if a ∈ w.cs then none else H a
def rOf (w : Wd) (H : Hp) : Addr → Prop := fun a => (∃ o, H a = some o) ∧ w.F a = none ∧ a ∉ w.cs
def noSlo : Re → Prop
  | .slo _ => False
  | _ => True
structure Pre (w : Wd) (H : Hp) (S : List C) : Prop where
  le : Le w H
  ce : ∀ (n : Nat) (c : C), S[n]? = some c → ∃ a, w.cs[n]? = some a ∧ Cel w H a c
  cl : w.cs.length = S.length
  cf : ∀ a ∈ w.cs, w.F a = none
  cn : w.cs.Nodup
def Post (w : Wd) (H : Hp) (G : Re → List C → Prop) (v : V) (H' : Hp) : Prop :=
  ∃ r w' σ' ss', Ok (bOf w H) (rOf w H) w' σ' H' ss' ∧ RepR (bOf w H) (rOf w H) w' σ' H' ss' r v ∧ noSlo r ∧ Ext w w' ∧ G r ss'.S
def specOf (c : Ct) : Sp := fun vs H Q _ => ∃ (w : Wd) (ds : List D) (S : List C) (G : Re → List C → Prop), Pre w H S ∧ RepL w ds vs ∧ c ds S G ∧ ∀ v H', Post w H G v H' → Q v H'
theorem bOf_out {w : Wd} {H : Hp} {a : Addr} (h : a ∉ w.cs) : bOf w H a = H a := by unfold bOf; rw [if_neg h]
theorem bOf_in {w : Wd} {H : Hp} {a : Addr} (h : a ∈ w.cs) : bOf w H a = none := by unfold bOf; rw [if_pos h]
section
variable {B : Hp} {R : Addr → Prop} {w : Wd} {σ : St} {H : Hp} {ss : SS}
theorem Ok.pre (o : Ok B R w σ H ss) : Pre w H ss.S := ⟨o.le, o.ce, o.cl, fun a m => (o.cf a m).1, o.cn⟩
/-- behind a call -/
theorem Ok.called (o : Ok B R w σ H ss) {G : Re → List C → Prop} {v : V} {H' : Hp} (p : Post w H G v H') :
    ∃ r ss' w', Ok B R w' σ H' ss' ∧ RepR B R w' σ H' ss' r v ∧ Ext w w' ∧ ss'.r = ss.r ∧ G r ss'.S := by
  obtain ⟨r, w1, σ1, s1, o1, rr, ns, ex, g⟩ := p
  have own : ∀ (i : Nat) (c : C), ss.r[i]? = some (.own c) → rOf w H (w.os i) := fun i c e => by
    obtain ⟨_, cc, a3, _, _, a6⟩ := o.ow i c e
    exact ⟨cc.there, a3, a6⟩
  have ex1 : Ext w1 { F := w1.F, cs := w1.cs, os := w.os } := ⟨fun _ _ e => e, fun _ _ e => e⟩
  have ex2 : Ext w { F := w1.F, cs := w1.cs, os := w.os } := ⟨ex.F, ex.cs⟩
  refine ⟨r, { r := ss.r, S := s1.S }, { F := w1.F, cs := w1.cs, os := w.os }, ⟨o1.le, fun b u e => ?_, fun a h => ?_, fun i d e => ?_, fun i c e => ?_, o.oi, fun n c e => ?_, o1.cl, fun a m => ?_, o1.cn, o.ln⟩, ?_, ⟨ex.F, ex.cs⟩, rfl, g⟩
  · have hn : b ∉ w.cs := fun m => by rw [(o.cf b m).2] at e; cases e
    exact o1.bs b u (by rw [bOf_out hn]; exact o.bs b u e)
  · obtain ⟨a1, a2, a3⟩ := o.rs a h
    exact o1.rs a ⟨a3, a1, a2⟩
  · obtain ⟨v, a1, a2⟩ := o.vl i d e
    exact ⟨v, a1, a2.ext ex2⟩
  · obtain ⟨a1, a2, a3, a4, a5, a6⟩ := o.ow i c e
    obtain ⟨b1, b2, _⟩ := o1.rs _ (own i c e)
    obtain ⟨u, hu⟩ := a2.there
    refine ⟨a1, a2.ext ex2 ?_, b1, a4, a5, b2⟩
    rw [hu]
    exact o1.bs _ _ (by rw [bOf_out a6]; exact hu)
  · obtain ⟨a, a1, a2⟩ := o1.ce n c e
    exact ⟨a, a1, a2.ext ex1 rfl⟩
  · refine ⟨(o1.cf a m).1, ?_⟩
    have q := (o1.cf a m).2
    cases e : B a with
    | none => rfl
    | some u =>
      have hn : a ∉ w.cs := fun m' => by rw [(o.cf a m').2] at e; cases e
      rw [bOf_out hn, o.bs a u e] at q
      cases q
  · cases r with
    | val d => exact Rep.ext ex1 d v rr
    | slo i => exact ns.elim
    | new c =>
      obtain ⟨p, e0, x, h1, h2, h3, h4, _⟩ := rr
      have hB : B p = none := by
        cases e : B p with
        | none => rfl
        | some u =>
          have hn : p ∉ w.cs := fun m' => by rw [(o.cf p m').2] at e; cases e
          rw [bOf_out hn, o.bs p u e] at h2
          cases h2
      exact ⟨p, e0, x.ext ex1 rfl, h1, hB, fun r => h3 (by obtain ⟨a1, a2, a3⟩ := o.rs p r; exact ⟨a3, a1, a2⟩), h4, fun i c e z => h3 (z ▸ own i c e)⟩
end
section
variable {X : Cx} {e : Expr} {es : List Expr} {fs : WA} {c : Ct} {k j : Nat} {f : Addr} {fd : FuncData} {ps : List Str} {x : Str} {p pos : Pos} {ds : List Value} {dvs : List V} {dds : List D}
def fCall (c : Ct) (dds : List D) (fs : WA) : WE := fun ss G => fs ss fun ds s => c (ds ++ dds) s.S fun r S' => G r { r := s.r, S := S' }
theorem de_call (F : FnOk X.prog X.w X.K X.mg X.base CX0 k f fd ps (specOf c)) (hm : X.mg x = some (.ref f)) (hk : PySem.W.keepIn X.K (.ref f) = true) (hb : Binds X.K fd ps ds) (hd : Vals dvs ds) (hdd : ∀ w, RepL w dds dvs) (hr : Room j X.A) (hj : k ≤ j) (hg : Gl X x)
    (ha : DA X (e :: es) fs) (hdb : (x == ("__debug__" : Str)) = false := by decide) (he : starEach (e :: es) X.env = (false, eval e X.env) :: starEach es X.env := by rfl) (hpl : (backTo pos (starEach es X.env)).any (·.1) = false := by rfl) :
    DE X (.Call (.Name x p) (e :: es) [] pos) (fCall c dds fs) := by
  obtain ⟨t, pa, hf⟩ := ha
  refine ⟨_, pe_call F (hr.mono hj) hg hm hk hb hd pass0 pa hdb he hpl, fun B R w σ H ss G Q o hw hq => hf B R w σ H ss _ _ o hw fun vs H1 ds s1 w1 o1 r1 e1 h1 => ?_⟩
  refine ⟨w1, ds ++ dds, s1.S, _, o1.pre, r1.append (hdd w1), h1, fun v H' p => ?_⟩
  obtain ⟨r, s2, w2, o2, r2, e2, hs, g⟩ := o1.called p
  refine hq v H' r s2 w2 o2 r2 (e1.trans e2) ?_
  have : s2 = { r := s1.r, S := s2.S } := by rw [← hs]
  rw [this]; exact g
theorem de_call0 (F : FnOk X.prog X.w X.K X.mg X.base CX0 k f fd ps (specOf c)) (hm : X.mg x = some (.ref f)) (hk : PySem.W.keepIn X.K (.ref f) = true) (hb : Binds X.K fd ps ds) (hd : Vals dvs ds) (hdd : ∀ w, RepL w dds dvs) (hr : Room j X.A) (hj : k ≤ j) (hg : Gl X x)
    (hdb : (x == ("__debug__" : Str)) = false := by decide) : DE X (.Call (.Name x p) [] [] pos) (fCall c dds fNil) := by
  refine ⟨_, pe_call0 F (hr.mono hj) hg hm hk hb hd pass0 hdb, fun B R w σ H ss G Q o hw hq => ?_⟩
  refine ⟨w, [] ++ dds, ss.S, _, o.pre, hdd w, hw, fun v H' p => ?_⟩
  obtain ⟨r, s2, w2, o2, r2, e2, hs, g⟩ := o.called p
  refine hq v H' r s2 w2 o2 r2 e2 ?_
  have : s2 = { r := ss.r, S := s2.S } := by rw [← hs]
  rw [this]; exact g
end

/-! ### statements -/
structure En where
  nx : SS → Prop
  rt : Re → List C → Prop
  bk : SS → Prop
  ct : SS → Prop
abbrev WS := En → SS → Prop
structure Lands (B : Hp) (R : Addr → Prop) (w : Wd) (E : En) (D : Ends) : Prop where
  nx : ∀ σ' H' ss' w', Ok B R w' σ' H' ss' → Ext w w' → E.nx ss' → D.nx σ' H'
  rt : ∀ v σ' H' r ss' w', Ok B R w' σ' H' ss' → RepR B R w' σ' H' ss' r v → noSlo r → Ext w w' → E.rt r ss'.S → D.rt v H'
  bk : ∀ σ' H' ss' w', Ok B R w' σ' H' ss' → Ext w w' → E.bk ss' → D.bk σ' H'
  ct : ∀ σ' H' ss' w', Ok B R w' σ' H' ss' → Ext w w' → E.ct ss' → D.ct σ' H'
theorem Lands.ext {B : Hp} {R : Addr → Prop} {w w1 : Wd} {E : En} {D : Ends} (l : Lands B R w E D) (e : Ext w w1) : Lands B R w1 E D :=
  ⟨fun σ' H' ss' w' o x h => l.nx σ' H' ss' w' o (e.trans x) h, fun v σ' H' r ss' w' o rr ns x h => l.rt v σ' H' r ss' w' o rr ns (e.trans x) h, fun σ' H' ss' w' o x h => l.bk σ' H' ss' w' o (e.trans x) h, fun σ' H' ss' w' o x h => l.ct σ' H' ss' w' o (e.trans x) h⟩
def DS (X : Cx) (st : Stmt) (f : WS) : Prop := ∃ t, PS X st t ∧ ∀ (B : Hp) (R : Addr → Prop) (w : Wd) (σ : St) (H : Hp) (ss : SS) (E : En) (D : Ends), Ok B R w σ H ss → f E ss → Lands B R w E D → t D σ H
def DSs (X : Cx) (st : List Stmt) (f : WS) : Prop := ∃ t, PSs X st t ∧ ∀ (B : Hp) (R : Addr → Prop) (w : Wd) (σ : St) (H : Hp) (ss : SS) (E : En) (D : Ends), Ok B R w σ H ss → f E ss → Lands B R w E D → t D σ H
section
variable {X : Cx} {st : Stmt} {rest : List Stmt} {f g : WS} {e : Expr} {fe : WE} {pos pos' : Pos}
def sNil : WS := fun E ss => E.nx ss
def sSeq (f g : WS) : WS := fun E ss => f { E with nx := g E } ss
theorem dss_nil : DSs X [] sNil := ⟨_, pss_nil, fun B R w σ H ss E D o h l => l.nx σ H ss w o (.refl w) h⟩
theorem dss_cons (h1 : DS X st f) (h2 : DSs X rest g) : DSs X (st :: rest) (sSeq f g) := by
  obtain ⟨t, p, hf⟩ := h1
  obtain ⟨u, q, hg⟩ := h2
  refine ⟨_, pss_cons p q, fun B R w σ H ss E D o h l => hf B R w σ H ss _ _ o h ⟨fun σ' H' ss' w' o' x h' => ?_, l.rt, l.bk, l.ct⟩⟩
  exact hg B R w' σ' H' ss' E D o' h' (l.ext x)
theorem dss_one (h1 : DS X st f) : DSs X [st] f := by
  obtain ⟨t, p, hf⟩ := h1
  exact ⟨_, pss_one p, hf⟩
def sPass : WS := fun E ss => E.nx ss
def sBreak : WS := fun E ss => E.bk ss
def sCont : WS := fun E ss => E.ct ss
def sNever : WS := fun _ _ => False
theorem ds_pass : DS X (.Pass pos) sPass := ⟨_, ps_pass, fun B R w σ H ss E D o h l => l.nx σ H ss w o (.refl w) h⟩
theorem ds_break : DS X (.Break pos) sBreak := ⟨_, ps_break, fun B R w σ H ss E D o h l => l.bk σ H ss w o (.refl w) h⟩
theorem ds_cont : DS X (.Continue pos) sCont := ⟨_, ps_continue, fun B R w σ H ss E D o h l => l.ct σ H ss w o (.refl w) h⟩
theorem ds_never : DS X st sNever := ⟨_, ps_never, fun B R w σ H ss E D o h l => h.elim⟩
def sDrop (fe : WE) : WS := fun E ss => fe ss fun _ s => E.nx s
theorem ds_expr (h : DE X e fe) (hs : swapsWith e none pos.line X.env = pure false := by rfl) : DS X (.Expr e pos) (sDrop fe) := by
  obtain ⟨t, p, hf⟩ := h
  exact ⟨_, ps_expr p hs, fun B R w σ H ss E D o hw l => hf B R w σ H ss _ _ o hw fun v H' r ss' w' o' rr ex h => l.nx σ H' ss' w' o' ex h⟩
def rtn (r : Re) (ss : SS) (k : Re → List C → Prop) : Prop := match r with
  | .slo i => (match ss.r[i]? with
    | some (.own c) => k (.new c) ss.S
    | some (.val d) => k (.val d) ss.S
    | _ => False)
  | r => k r ss.S
def sRet (fe : WE) : WS := fun E ss => fe ss fun r s => rtn r s E.rt
theorem rtn_ok {B : Hp} {R : Addr → Prop} {w : Wd} {σ : St} {H : Hp} {ss : SS} (o : Ok B R w σ H ss) {r : Re} {v : V} (h : RepR B R w σ H ss r v) {k : Re → List C → Prop} (hk : rtn r ss k) :
    ∃ r' ss', Ok B R w σ H ss' ∧ RepR B R w σ H ss' r' v ∧ noSlo r' ∧ k r' ss'.S := by
  cases r with
  | val d => exact ⟨.val d, ss, o, h, trivial, hk⟩
  | new c => exact ⟨.new c, ss, o, h, trivial, hk⟩
  | slo i =>
    have h : σ[i]? = some (some v) := h
    cases e : ss.r[i]? with
    | none => unfold rtn at hk; simp only [e] at hk
    | some x =>
      cases x with
      | no => unfold rtn at hk; simp only [e] at hk
      | val d =>
        unfold rtn at hk; simp only [e] at hk
        obtain ⟨v', a1, a2⟩ := o.vl i d e
        rw [h] at a1; cases a1
        exact ⟨.val d, ss, o, a2, trivial, hk⟩
      | own c =>
        unfold rtn at hk; simp only [e] at hk
        obtain ⟨a1, x, h1, h2, h3, h4⟩ := o.ow i c e
        rw [h] at a1; cases a1
        have o1 : Ok B R w σ H { ss with r := ss.r.set i .no } := o.slots (by rw [List.length_set]; exact o.ln) (fun j d q => by
          rcases set_get q with ⟨_, q, _⟩ | ⟨_, q⟩
          · cases q
          · exact o.vl j d q) (fun j c' q => by
          rcases set_get q with ⟨_, q, _⟩ | ⟨_, q⟩
          · cases q
          · exact ⟨q, rfl⟩)
        refine ⟨.new c, _, o1, ⟨_, rfl, x, h1, h2, h3, h4, fun j c' q z => ?_⟩, trivial, hk⟩
        rcases set_get q with ⟨_, q, _⟩ | ⟨ne, q⟩
        · cases q
        · exact ne (o.oi j i c' c q e z)
theorem ds_ret (h : DE X e fe) : DS X (.Return (some e) pos) (sRet fe) := by
  obtain ⟨t, p, hf⟩ := h
  refine ⟨_, ps_ret p, fun B R w σ H ss E D o hw l => hf B R w σ H ss _ _ o hw fun v H' r ss' w' o' rr ex h => ?_⟩
  obtain ⟨r', s2, o2, r2, ns, hk⟩ := rtn_ok o' rr h
  exact l.rt v σ H' r' s2 w' o2 r2 ns ex hk
def sRetN : WS := fun E ss => E.rt (.val .non) ss.S
theorem ds_retN : DS X (.Return none pos) sRetN := ⟨_, ps_retN, fun B R w σ H ss E D o h l => l.rt .non σ H (.val .non) ss w o rfl trivial (.refl w) h⟩
def sIf (g : WT) (f1 f2 : WS) : WS := fun E ss => g ss fun c s => if c = true then f1 E s else f2 E s
theorem ds_if {c : Expr} {a b : List Stmt} {gc : WT} {f1 f2 : WS} (hc : DT X c gc) (ha : DSs X a f1) (hb : DSs X b f2) : DS X (.If c a b pos) (sIf gc f1 f2) := by
  obtain ⟨t, p, hf⟩ := hc
  obtain ⟨t1, p1, hf1⟩ := ha
  obtain ⟨t2, p2, hf2⟩ := hb
  refine ⟨_, ps_if p p1 p2, fun B R w σ H ss E D o hw l => hf B R w σ H ss _ _ o hw fun c H' ss' w' o' ex h => ?_⟩
  split
  · rename_i hc; rw [if_pos hc] at h
    exact hf1 B R w' σ H' ss' E D o' h (l.ext ex)
  · rename_i hc; rw [if_neg hc] at h
    exact hf2 B R w' σ H' ss' E D o' h (l.ext ex)
/-- a slot takes a result -/
def setS (i : Nat) (r : Re) (ss : SS) (k : SS → Prop) : Prop := match r with
  | .val d => k { ss with r := ss.r.set i (.val d) }
  | .new c => k { ss with r := ss.r.set i (.own c) }
  | .slo j => fz (.slo j) ss fun d s => k { s with r := s.r.set i (.val d) }
theorem set_val {B : Hp} {R : Addr → Prop} {w : Wd} {σ : St} {H : Hp} {ss : SS} (o : Ok B R w σ H ss) {d : D} {v : V} (h : Rep w d v) (i : Nat) : Ok B R w (σ.set i (some v)) H { ss with r := ss.r.set i (.val d) } :=
  o.slots (by rw [List.length_set, List.length_set]; exact o.ln) (fun j d' q => by
    rcases set_get q with ⟨e1, e2, lt⟩ | ⟨ne, q⟩
    · cases e2
      rw [e1]
      exact ⟨v, List.getElem?_set_self (by rw [← o.ln]; exact lt), h⟩
    · obtain ⟨v', a1, a2⟩ := o.vl j d' q
      exact ⟨v', by rw [List.getElem?_set_ne (fun z => ne z.symm)]; exact a1, a2⟩) (fun j c q => by
    rcases set_get q with ⟨_, e2, _⟩ | ⟨ne, q⟩
    · cases e2
    · exact ⟨q, by rw [List.getElem?_set_ne (fun z => ne z.symm)]⟩)
theorem set_ok {B : Hp} {R : Addr → Prop} {w : Wd} {σ : St} {H : Hp} {ss : SS} (o : Ok B R w σ H ss) {r : Re} {v : V} (h : RepR B R w σ H ss r v) {i : Nat} {k : SS → Prop} (hk : setS i r ss k) :
    ∃ ss' w', Ok B R w' (σ.set i (some v)) H ss' ∧ Ext w w' ∧ k ss' := by
  cases r with
  | val d => exact ⟨_, w, set_val o h i, .refl w, hk⟩
  | slo j =>
    obtain ⟨d, s2, w2, o2, e2, r2, hk⟩ := fz_ok o h (show fz (.slo j) ss fun d s => k { s with r := s.r.set i (.val d) } from hk)
    exact ⟨_, w2, set_val o2 r2 i, e2, hk⟩
  | new c =>
    obtain ⟨p, rfl, x, h1, h2, h3, h4, h5⟩ := h
    -- the slot forgotten, its place told anew
    have ex : Ext w { w with os := fun j => if j = i then p else w.os j } := ⟨fun _ _ e => e, fun _ _ e => e⟩
    refine ⟨{ ss with r := ss.r.set i (.own c) }, { w with os := fun j => if j = i then p else w.os j }, ⟨o.le, o.bs, o.rs, fun j d q => ?_, fun j c' q => ?_, fun j l c1 c2 q1 q2 e => ?_, fun n c' q => ?_, o.cl, o.cf, o.cn, by rw [List.length_set, List.length_set]; exact o.ln⟩, ex, hk⟩
    · rcases set_get q with ⟨_, e2, _⟩ | ⟨ne, q⟩
      · cases e2
      · obtain ⟨v', a1, a2⟩ := o.vl j d q
        exact ⟨v', by rw [List.getElem?_set_ne (fun z => ne z.symm)]; exact a1, a2.ext ex⟩
    · have key : ∀ a : Addr, (if j = i then p else w.os j) = a → ((σ.set i (some (.ref p)))[j]? = some (some (.ref a)) ∧ Cel { w with os := fun j => if j = i then p else w.os j } H a c' ∧ w.F a = none ∧ B a = none ∧ ¬ R a ∧ a ∉ w.cs) →
          ((σ.set i (some (.ref p)))[j]? = some (some (.ref (if j = i then p else w.os j))) ∧ Cel { w with os := fun j => if j = i then p else w.os j } H (if j = i then p else w.os j) c' ∧ w.F (if j = i then p else w.os j) = none ∧ B (if j = i then p else w.os j) = none ∧ ¬ R (if j = i then p else w.os j) ∧ (if j = i then p else w.os j) ∉ w.cs) := fun a e h => by
        rw [e]; exact h
      rcases set_get q with ⟨e1, e2, lt⟩ | ⟨ne, q⟩
      · cases e2
        refine key p (if_pos e1) ⟨?_, x.ext ex rfl, h1, h2, h3, h4⟩
        rw [e1]; exact List.getElem?_set_self (by rw [← o.ln]; exact lt)
      · obtain ⟨a1, a2, a3⟩ := o.ow j c' q
        exact key (w.os j) (if_neg ne) ⟨by rw [List.getElem?_set_ne (fun z => ne z.symm)]; exact a1, a2.ext ex rfl, a3⟩
    · have e : (if j = i then p else w.os j) = (if l = i then p else w.os l) := e
      rcases set_get q1 with ⟨e1, e2, lt⟩ | ⟨ne, q1⟩
      · rcases set_get q2 with ⟨e1', _, _⟩ | ⟨ne', q2⟩
        · rw [e1, e1']
        · rw [if_pos e1, if_neg ne'] at e
          exact (h5 l c2 q2 e.symm).elim
      · rcases set_get q2 with ⟨e1', _, _⟩ | ⟨ne', q2⟩
        · rw [if_neg ne, if_pos e1'] at e
          exact (h5 j c1 q1 e).elim
        · rw [if_neg ne, if_neg ne'] at e
          exact o.oi j l c1 c2 q1 q2 e
    · obtain ⟨a, a1, a2⟩ := o.ce n c' q
      exact ⟨a, a1, a2.ext ex rfl⟩
def sSet (i : Nat) (fe : WE) : WS := fun E ss => fe ss fun r s => setS i r s E.nx
theorem ds_set {i : Nat} {x : Str} (hN : X.N.Nodup) (h : DE X e fe) (hi : X.N[i]? = some x := by rfl) (hx : Loc X.env.scope x := by first | exact Or.inl rfl | exact Or.inr rfl) (hs : swapsWith e (some (.Name x pos')) pos.line X.env = pure false := by rfl) (hf : X.fn x = true ∨ X.env.scope.names.lookup x = some .local := by first | exact .inl rfl | exact .inr rfl) :
    DS X (.Assign [.Name x pos'] e pos) (sSet i fe) := by
  obtain ⟨t, p, hf'⟩ := h
  refine ⟨_, ps_set hN hi hx p hs hf, fun B R w σ H ss E D o hw l => hf' B R w σ H ss _ _ o hw fun v H' r ss' w' o' rr ex h => ?_⟩
  obtain ⟨s2, w2, o2, e2, hk⟩ := set_ok o' rr h
  exact l.nx _ H' s2 w2 o2 (ex.trans e2) hk
/-- .. as a cell -/
def sSetC (i : Nat) (fe : WE) : WS := fun E ss => fe ss fun r s => toCell r s fun d s => E.nx { s with r := s.r.set i (.val d) }
theorem ds_setC {i : Nat} {x : Str} (hN : X.N.Nodup) (h : DE X e fe) (hi : X.N[i]? = some x := by rfl) (hx : Loc X.env.scope x := by first | exact Or.inl rfl | exact Or.inr rfl) (hs : swapsWith e (some (.Name x pos')) pos.line X.env = pure false := by rfl) (hf : X.fn x = true ∨ X.env.scope.names.lookup x = some .local := by first | exact .inl rfl | exact .inr rfl) :
    DS X (.Assign [.Name x pos'] e pos) (sSetC i fe) := by
  obtain ⟨t, p, hf'⟩ := h
  refine ⟨_, ps_set hN hi hx p hs hf, fun B R w σ H ss E D o hw l => hf' B R w σ H ss _ _ o hw fun v H' r ss' w' o' rr ex h => ?_⟩
  obtain ⟨d, s2, w2, o2, e2, r2, hk⟩ := celled o' rr h
  exact l.nx _ H' _ w2 (set_val o2 r2 i) (ex.trans e2) hk
/-- while -/
def sWhile (g : WT) (f : WS) : WS := fun E ss => ∃ I : Nat → SS → Prop, (∃ m, I m ss) ∧ ∀ m s, I m s → g s fun c s1 => if c = true then f { E with nx := fun s' => ∃ m', m' < m ∧ I m' s', ct := fun s' => ∃ m', m' < m ∧ I m' s', bk := E.nx } s1 else E.nx s1
theorem ds_while {c : Expr} {body : List Stmt} {gc : WT} (hp : PassesOwn (model X.prog X.w) X.A X.env X.xe) (hc : DT X c gc) (hb : DSs X body f) : DS X (.While c body [] pos) (sWhile gc f) := by
  obtain ⟨t, p, hf⟩ := hc
  obtain ⟨t1, p1, hf1⟩ := hb
  refine ⟨_, ps_while hp p p1, fun B R w σ H ss E D o hw l => ?_⟩
  obtain ⟨I, ⟨m0, i0⟩, turn⟩ := hw
  refine ⟨fun m σ' H' => ∃ ss' w', Ok B R w' σ' H' ss' ∧ Ext w w' ∧ I m ss', ⟨m0, ss, w, o, .refl w, i0⟩, ?_⟩
  rintro m σ1 H1 ⟨s1, w1, o1, e1, i1⟩
  refine hf B R w1 σ1 H1 s1 _ _ o1 (turn m s1 i1) fun c H2 s2 w2 o2 e2 h2 => ?_
  split
  · rename_i hc; rw [if_pos hc] at h2
    refine ⟨fun σ' H' => ∃ m', m' < m ∧ ∃ ss' w', Ok B R w' σ' H' ss' ∧ Ext w w' ∧ I m' ss', fun σ' H' h => h, ?_⟩
    refine hf1 B R w2 σ1 H2 s2 _ _ o2 h2 ⟨fun σ' H' ss' w' o' x ⟨m', lt, i'⟩ => ⟨m', lt, ss', w', o', e1.trans (e2.trans x), i'⟩, (l.ext (e1.trans e2)).rt, (l.ext (e1.trans e2)).nx, fun σ' H' ss' w' o' x ⟨m', lt, i'⟩ => ⟨m', lt, ss', w', o', e1.trans (e2.trans x), i'⟩⟩
  · rename_i hc; rw [if_neg hc] at h2
    exact l.nx σ1 H2 s2 w2 o2 (e1.trans e2) h2
end
end Vl
namespace Vl
open PySem PySem.Spec L2
open PyProof.Rows hiding St

/-! ### targets -/
abbrev WG := D → SS → (SS → Prop) → Prop
abbrev WGs := List D → SS → (SS → Prop) → Prop
/-- the slots vs are those that it stores -/
def DG (X : Cx) (vs : List Nat) (tg : Expr) (g : WG) : Prop := ∃ t, PG X tg t ∧ ∀ (B : Hp) (R : Addr → Prop) (w : Wd) (σ : St) (H : Hp) (ss : SS) (d : D) (v : V) (K : SS → Prop) (Q : St → Hp → Prop), Ok B R w σ H ss → Rep w d v → g d ss K →
  (∀ σ' H' ss' w', Ok B R w' σ' H' ss' → Ext w w' → (∀ us : List Nat, (∀ i ∈ vs, i ∈ us) → wipe σ' us = wipe σ us) → K ss' → Q σ' H') → t v σ H Q
def DGs (X : Cx) (vs : List Nat) (ts : List Expr) (g : WGs) : Prop := ∃ t, PGs X ts t ∧ ∀ (B : Hp) (R : Addr → Prop) (w : Wd) (σ : St) (H : Hp) (ss : SS) (ds : List D) (us : List V) (K : SS → Prop) (Q : St → Hp → Prop), Ok B R w σ H ss → RepL w ds us → g ds ss K →
  (∀ σ' H' ss' w', Ok B R w' σ' H' ss' → Ext w w' → (∀ us : List Nat, (∀ i ∈ vs, i ∈ us) → wipe σ' us = wipe σ us) → K ss' → Q σ' H') → t us σ H Q
theorem wipe_set {σ : St} {i : Nat} {x : Option V} : ∀ {us : List Nat}, i ∈ us → wipe (σ.set i x) us = wipe σ us
  | u :: us, h => by
    unfold wipe
    by_cases m : i ∈ us
    · rw [wipe_set m]
    · have e : i = u := by
        rcases List.mem_cons.mp h with e | h
        · exact e
        · exact (m h).elim
      subst e
      have : ∀ {l : List Nat}, i ∉ l → wipe (σ.set i x) l = (wipe σ l).set i x := by
        intro l
        induction l with
        | nil => intro _; rfl
        | cons a l ih =>
          intro hn
          unfold wipe
          rw [ih (fun z => hn (List.mem_cons_of_mem _ z)), List.set_comm _ _ (by intro z; subst z; exact hn List.mem_cons_self)]
      rw [this m, List.set_set]
section
variable {X : Cx} {e : Expr} {es : List Expr} {pos : Pos} {vs vs' : List Nat} {g : WG} {gs : WGs}
def gNm (i : Nat) : WG := fun d s K => K { s with r := s.r.set i (.val d) }
theorem dg_name (i : Nat) {x : Str} (hN : X.N.Nodup) (hi : X.N[i]? = some x := by rfl) (hx : Loc X.env.scope x := by first | exact Or.inl rfl | exact Or.inr rfl) (hf : X.fn x = true ∨ X.env.scope.names.lookup x = some .local := by first | exact .inl rfl | exact .inr rfl) : DG X [i] (.Name x pos) (gNm i) :=
  ⟨_, pg_name hN hi hx hf, fun B R w σ H ss d v K Q o r hg hq => hq _ H _ w (set_val o r i) (.refl w) (fun us h => wipe_set (h i List.mem_cons_self)) hg⟩
def gsNil : WGs := fun ds s K => ds = [] ∧ K s
def gsCons (g : WG) (gs : WGs) : WGs := fun ds s K => match ds with
  | d :: ds => g d s fun s => gs ds s K
  | [] => False
theorem dgs_nil : DGs X [] [] gsNil := by
  refine ⟨_, pgs_nil, fun B R w σ H ss ds us K Q o r hg hq => ?_⟩
  obtain ⟨rfl, hg⟩ := hg
  exact ⟨r, hq σ H ss w o (.refl w) (fun _ _ => rfl) hg⟩
theorem dgs_cons (h1 : DG X vs e g) (h2 : DGs X vs' es gs) (hs : (assignEach (e :: es) X.env).map (·.2) = assign e X.env :: (assignEach es X.env).map (·.2) := by rfl) : DGs X (vs ++ vs') (e :: es) (gsCons g gs) := by
  obtain ⟨t, p, hf⟩ := h1
  obtain ⟨t2, p2, hf2⟩ := h2
  refine ⟨_, pgs_cons p p2 hs, fun B R w σ H ss ds us K Q o r hg hq => ?_⟩
  cases ds with
  | nil => exact hg.elim
  | cons d ds =>
    obtain ⟨v, us, rfl, r1, r2⟩ := r
    refine ⟨v, us, rfl, hf B R w σ H ss d v _ _ o r1 hg fun σ' H' s1 w1 o1 e1 q1 h1 => ?_⟩
    refine hf2 B R w1 σ' H' s1 ds us _ _ o1 (r2.ext e1) h1 fun σ2 H2 s2 w2 o2 e2 q2 h2 => ?_
    exact hq σ2 H2 s2 w2 o2 (e1.trans e2) (fun us h => (q2 us fun i m => h i (List.mem_append_right _ m)).trans (q1 us fun i m => h i (List.mem_append_left _ m))) h2
def gTp (n : Nat) (gs : WGs) : WG := fun d s K => match d with
  | .tup ds => ds.length = n ∧ gs ds s K
  | _ => False
theorem dg_tup {k n : Nat} (hc : X.calm = true) (h : DGs X vs es gs) (hn : (assignEach es X.env).length = n := by rfl) (hst : (assignEach es X.env).findIdx? (·.1) = none := by rfl) : DG X vs (.Tuple es k pos) (gTp n gs) := by
  obtain ⟨t, p, hf⟩ := h
  refine ⟨_, pg_tup hc p hn hst, fun B R w σ H ss d v K Q o r hg hq => ?_⟩
  unfold gTp at hg
  split at hg
  · obtain ⟨a, us, rfl, h1, h2⟩ := r
    exact ⟨a, us, rfl, .inl (o.le _ _ h1), h2.length.trans hg.1, hf B R w σ H ss _ us K Q o h2 hg.2 hq⟩
  · exact hg.elim
/-- target = value -/
def sAsg (fe : WE) (g : WG) : WS := fun E ss => fe ss fun r s => fz r s fun d s => g d s E.nx
theorem ds_asg {tg : Expr} {fe : WE} (h : DE X e fe) (hg : DG X vs tg g) (hs : swapsWithSole [tg] e pos.line X.env = pure false := by rfl) (hw : swappedStores [tg] e X.env = pure none := by rfl)
    (h1 : (assignEach [tg] X.env).map (·.2) = [assign tg X.env] := by rfl) : DS X (.Assign [tg] e pos) (sAsg fe g) := by
  obtain ⟨t, p, hf⟩ := h
  obtain ⟨t2, p2, hf2⟩ := hg
  refine ⟨_, ps_asg p p2 hs hw h1, fun B R w σ H ss E D o hw l => hf B R w σ H ss _ _ o hw fun v H1 r s1 w1 o1 r1 e1 h1 => ?_⟩
  obtain ⟨d, s2, w2, o2, e2, r2, hk⟩ := fz_ok o1 r1 h1
  exact hf2 B R w2 σ H1 s2 d v _ _ o2 r2 hk fun σ' H' s3 w3 o3 e3 _ h3 => l.nx σ' H' s3 w3 o3 (e1.trans (e2.trans e3)) h3
/-- a, b = x, y -/
def sPar (i j : Nat) (fa fb : WE) : WS := fun E ss => f2 fa fb (fun a b s => setS i a s fun s => setS j b s E.nx) ss
end

/-! ### dicts that are walked stand still -/
def Unl (X : Cx) (P : Hp → Prop) (H : Hp) : Prop := P H ∨ ∃ d o u, H d = some (.frz o u) ∧ (∀ o' u', X.H_0 d ≠ some (.frz o' u')) ∧ P (upd H d u)
def tUnl (X : Cx) (t : TS) : TS := fun D σ H => t ⟨fun σ' H' => Unl X (D.nx σ') H', fun v H' => Unl X (D.rt v) H', fun σ' H' => Unl X (D.bk σ') H', fun σ' H' => Unl X (D.ct σ') H'⟩ σ H
def tUnlE (X : Cx) (t : TE) : TE := fun σ H Q => t σ H fun v H' => Unl X (Q v) H'
theorem unl_ok {X : Cx} {pins : List (Addr × Obj)} {σ : St} {H : Hp} {s : Shared} {P : Hp → Prop} (I : Inv X pins σ H s) (h : Unl X P H) : ∃ H', Inv X pins σ H' s ∧ P H' := by
  rcases h with h | ⟨d, o, u, h1, h2, h3⟩
  · exact ⟨H, I, h⟩
  · exact ⟨_, I.unlock h1 h2, h3⟩
theorem ps_unl {X : Cx} {st : Stmt} {t : TS} (h : PS X st t) : PS X st (tUnl X t) := by
  refine ⟨fun pins s σ H D I hw => thn (h.run pins s σ H _ I hw) fun f s1 q => ?_⟩
  cases f with
  | next => obtain ⟨σ', H', I2, q⟩ := q; obtain ⟨H2, I3, q⟩ := unl_ok I2 q; exact ⟨σ', H2, I3, q⟩
  | brk => obtain ⟨σ', H', I2, q⟩ := q; obtain ⟨H2, I3, q⟩ := unl_ok I2 q; exact ⟨σ', H2, I3, q⟩
  | cont => obtain ⟨σ', H', I2, q⟩ := q; obtain ⟨H2, I3, q⟩ := unl_ok I2 q; exact ⟨σ', H2, I3, q⟩
  | ret v => obtain ⟨x, σ', H', I2, r, q⟩ := q; obtain ⟨H2, I3, q⟩ := unl_ok I2 q; exact ⟨x, σ', H2, I3, r, q⟩
theorem pe_unl {X : Cx} {e : Expr} {t : TE} (h : PE X e t) : PE X e (tUnlE X t) := by
  refine ⟨fun pins s σ H Q I hw => thn (h.run pins s σ H _ I hw) fun v s1 ⟨x, H1, I2, r, q⟩ => ?_⟩
  obtain ⟨H2, I3, q⟩ := unl_ok I2 q
  exact ⟨x, H2, I3, r, q⟩

/-! ### what is walked -/
/-- from the walk's frame back to the frame before -/
def Back (X : Cx) (B : Hp) (R : Addr → Prop) (B1 : Hp) (R1 : Addr → Prop) (w1 : Wd) : Prop :=
  ∀ (w' : Wd) (σ' : St) (H' : Hp) (ss' : SS), Ok B1 R1 w' σ' H' ss' → Ext w1 w' → ∀ P : Hp → Prop, (∀ H'', Ok B R w' σ' H'' ss' → (∀ r v, RepR B1 R1 w' σ' H' ss' r v → RepR B R w' σ' H'' ss' r v) → P H'') → Unl X P H'
/-- the items come one by one -/
def Runs (B1 : Hp) (R1 : Addr → Prop) (w1 : Wd) (J : It) (ds : List D) : Prop :=
  ∀ (Be : Hp) (Re' : Addr → Prop) (w' : Wd) (σ' : St) (H' : Hp) (ss' : SS), (∀ b o, B1 b = some o → H' b = some o) → Ok Be Re' w' σ' H' ss' → Ext w1 w' →
    (∀ i, i < ds.length → J.go i H' ∧ ∀ x H'', J.yld i H' x H'' → ∃ d w'', ds[i]? = some d ∧ Ok Be Re' w'' σ' H'' ss' ∧ Ext w' w'' ∧ Rep w'' d x) ∧ (∀ i, ds.length ≤ i → J.stop i H')
abbrev WI := SS → (List D → SS → Prop) → Prop
def DI (X : Cx) (tg iter : Expr) (f : WI) : Prop := ∃ wi, PI X tg iter wi ∧ ∀ (B : Hp) (R : Addr → Prop) (w : Wd) (σ : St) (H : Hp) (ss : SS) (G : List D → SS → Prop) (Q : It → Hp → Prop), Ok B R w σ H ss → f ss G →
  (∀ J H' ds ss' w' B1 R1, Ok B1 R1 w' σ H' ss' → Ext w w' → Back X B R B1 R1 w' → Runs B1 R1 w' J ds → G ds ss' → Q J H') → wi σ H Q
theorem back_refl {X : Cx} {B : Hp} {R : Addr → Prop} {w : Wd} : Back X B R B R w := fun w' σ' H' ss' o _ P h => .inl (h H' o fun _ _ r => r)

/-! ### for -/
def loopW (g : WG) (f : WS) : List D → En → SS → Prop
  | [], E, s => E.nx s
  | d :: r, E, s => g d s fun s1 => f { E with nx := loopW g f r E, ct := loopW g f r E, bk := E.nx } s1
def sFor (fi : WI) (g : WG) (f : WS) : WS := fun E ss => fi ss fun ds s => loopW g f ds E s
section
variable {X : Cx} {tg iter : Expr} {body : List Stmt} {vs : List Nat} {fi : WI} {g : WG} {f : WS} {pos : Pos}
theorem ds_for (hp : PassesOwn (model X.prog X.w) X.A X.env X.xe) (hc : X.calm = true) (hi : DI X tg iter fi) (hg : DG X vs tg g) (hb : DSs X body f) (hs : ∀ x, foldedSetIterable iter X.env x = pure x := by intro _; rfl) : DS X (.For tg iter body [] pos) (sFor fi g f) := by
  obtain ⟨wi, pi, hfi⟩ := hi
  obtain ⟨tG, pg, hfg⟩ := hg
  obtain ⟨tb, pb, hfb⟩ := hb
  refine ⟨_, ps_unl (ps_for hp hc pi pg pb hs), fun B R w σ H ss E D o hw l => ?_⟩
  refine hfi B R w σ H ss _ _ o hw fun J H1 ds s1 w1 B1 R1 o1 e1 bk runs h1 => ?_
  have nx' : ∀ σ' H' ss' w', Ok B1 R1 w' σ' H' ss' → Ext w1 w' → E.nx ss' → Unl X (D.nx σ') H' := fun σ' H' ss' w' o' x h => bk w' σ' H' ss' o' x _ fun H'' o'' _ => l.nx σ' H'' ss' w' o'' (e1.trans x) h
  refine ⟨fun i m σ' H' => m = ds.length - i ∧ i ≤ ds.length ∧ ∃ ss' w', Ok B1 R1 w' σ' H' ss' ∧ Ext w1 w' ∧ loopW g f (ds.drop i) E ss', ⟨ds.length, by simp, Nat.zero_le _, s1, w1, o1, .refl w1, h1⟩, ?_⟩
  rintro i m σ2 H2 ⟨rfl, hi, s2, w2, o2, e2, h2⟩
  obtain ⟨go, stop⟩ := runs B1 R1 w2 σ2 H2 s2 o2.bs o2 e2
  by_cases hlt : i < ds.length
  · obtain ⟨g1, g2⟩ := go i hlt
    refine .inr ⟨g1, fun σ' H' => ∃ ss' w', Ok B1 R1 w' σ' H' ss' ∧ Ext w1 w' ∧ loopW g f (ds.drop (i + 1)) E ss', fun σ' H' h => ⟨ds.length - (i + 1), by omega, rfl, hlt, h⟩, fun x H3 y => ?_⟩
    obtain ⟨d, w3, hd, o3, e3, r3⟩ := g2 x H3 y
    have hdrop : ds.drop i = d :: ds.drop (i + 1) := by
      rw [List.drop_eq_getElem_cons hlt]
      rw [List.getElem?_eq_getElem hlt] at hd
      rw [Option.some.inj hd]
    rw [hdrop] at h2
    refine hfg B1 R1 w3 σ2 H3 s2 d x _ _ o3 r3 h2 fun σ4 H4 s4 w4 o4 e4 _ h4 => ?_
    have e14 := e2.trans (e3.trans e4)
    refine hfb B1 R1 w4 σ4 H4 s4 _ _ o4 h4 ⟨fun σ' H' ss' w' o' x h => ⟨ss', w', o', e14.trans x, h⟩, fun v σ' H' r ss' w' o' rr ns x h => ?_, fun σ' H' ss' w' o' x h => nx' σ' H' ss' w' o' (e14.trans x) h, fun σ' H' ss' w' o' x h => ⟨ss', w', o', e14.trans x, h⟩⟩
    exact bk w' σ' H' ss' o' (e14.trans x) _ fun H'' o'' tr => l.rt v σ' H'' r ss' w' o'' (tr r v rr) ns (e1.trans (e14.trans x)) h
  · have e : ds.drop i = [] := List.drop_eq_nil_of_le (by omega)
    rw [e] at h2
    exact .inl ⟨stop i (by omega), nx' σ2 H2 s2 w2 o2 e2 h2⟩
end
end Vl
namespace Vl
open PySem PySem.Spec L2
open PyProof.Rows hiding St

section
variable {X : Cx} {tg : Expr}
/-- a list, a tuple, a text, a dict's keys: by what the value is -/
def iAny (X : Cx) (te : TE) : TI := fun σ H R => te σ H fun x H1 =>
  (∃ a, x = .ref a ∧ (∃ xs, SqL X.K H1 a xs) ∧ R (Itl X.K a) H1) ∨ (∃ a, x = .ref a ∧ (∃ xs, SqT X.K H1 a xs) ∧ R (Itt X.K a) H1) ∨ (∃ z, x = .str z ∧ R (Its z) H1) ∨
  (∃ d kvs, x = .ref d ∧ ((∃ o, H1 d = some (.frz o (.dK kvs)) ∧ R (Itk d o kvs) H1) ∨ (H1 d = some (.dK kvs) ∧ ((∀ o' u', X.H_0 d ≠ some (.frz o' u')) → ∀ o, R (Itk d o kvs) (upd H1 d (.frz o (.dK kvs)))))))
theorem pi_any {e : Expr} {te : TE} (he : PE X e te) : PI X tg e (iAny X te) := by
  refine ⟨fun pins s σ H R I h => ?_⟩
  refine thn (he.run pins s σ H _ I h) fun v s1 ⟨x, H1, I1, r1, q1⟩ => ?_
  have keys : ∀ {d : Addr} {kvs : List (Key × V)} {o : Obj} {H2 : Hp}, Inv X pins σ H2 s1 → H2 d = some (.frz o (.dK kvs)) → R (Itk d o kvs) H2 → wpAny (model X.prog X.w) X.A (pyIter (.ref d)) (PIE X pins σ tg R) X.xe s1 := fun {d kvs o H2} I2 hd q => by
    obtain ⟨hs, hgd, hx, es, ep, vs, hdt, hsz, kv, hm⟩ := I2.frzK hd
    refine iter_keys hs hgd hx hdt (pi_one (tk := s1.toks) I2 _ (turn_keys _ hdt) ⟨_, Heap.get?_push_size _ rfl, rfl, ?_⟩ q)
    rw [hsz] <;> rfl
  rcases q1 with ⟨a, e, ⟨xs, hq⟩, q⟩ | ⟨a, e, ⟨xs, hq⟩, q⟩ | ⟨z, e, q⟩ | ⟨d, kvs, e, ⟨o, hd, q⟩ | ⟨hd, q⟩⟩
  · subst e
    cases r1
    obtain ⟨its, rv, p, hz⟩ := I1.list hq
    refine wpAny_pyIter_list p.isList (pi_one (tk := s1.toks) I1 _ (turn_list a _) ⟨_, Heap.get?_push_size _ rfl, rfl, rfl⟩ q)
  · subst e
    cases r1
    obtain ⟨its, rv, p, hz⟩ := I1.tuple hq
    refine wpAny_pyIter_tuple (show s1.heap.IsTuple a its.toArray from p) (pi_one (tk := s1.toks) I1 _ (turn_tuple a _) ⟨_, Heap.get?_push_size _ rfl, rfl, rfl⟩ q)
  · subst e
    obtain ⟨t, rfl⟩ := r1
    cases ha : z.cps.all (· < 128)
    · exact wpAny_pyIter_wide ha (pi_one (tk := s1.toks) I1 _ (turn_str _ z t "str_iterator" (.inr rfl)) ⟨_, Heap.get?_push_size _ rfl, rfl, rfl⟩ q)
    · exact wpAny_pyIter_ascii ha (pi_one (tk := s1.toks) I1 _ (turn_str _ z t "str_ascii_iterator" (.inl rfl)) ⟨_, Heap.get?_push_size _ rfl, rfl, rfl⟩ q)
  · subst e
    cases r1
    exact keys I1 hd q
  · subst e
    cases r1
    obtain ⟨o, I2⟩ := I1.lock hd trivial
    exact keys I2 upd_same (q (I1.nofrz hd trivial) o)
end

/-! ### the values' side -/
section
variable {X : Cx} {B : Hp} {R : Addr → Prop} {w : Wd} {σ : St} {H : Hp} {ss : SS}
/-- one more thing that is known to stand -/
theorem known_ok (o : Ok B R w σ H ss) {d : Addr} {u x : HO} (hF : w.F d = some x) (hd : H d = some u) : Ok (upd B d u) R w σ H ss := by
  have hne : ∀ b : Addr, w.F b = none → b ≠ d := fun b e z => by rw [z, hF] at e; cases e
  refine ⟨o.le, fun b x h => ?_, o.rs, o.vl, fun i c e => ?_, o.oi, o.ce, o.cl, fun a m => ?_, o.cn, o.ln⟩
  · by_cases z : b = d
    · subst z; rw [upd_same] at h; cases h; exact hd
    · rw [upd_ne z] at h; exact o.bs b x h
  · obtain ⟨a1, a2, a3, a4, a5⟩ := o.ow i c e
    exact ⟨a1, a2, a3, by rw [upd_ne (hne _ a3)]; exact a4, a5⟩
  · obtain ⟨a1, a2⟩ := o.cf a m
    exact ⟨a1, by rw [upd_ne (hne a a1)]; exact a2⟩
theorem known_back {w1 : Wd} {d : Addr} {u x : HO} (hF : w1.F d = some x) (hB : ∀ y, B d = some y → y = u) : Back X B R (upd B d u) R w1 := by
  intro w' σ' H' ss' o' ex P hP
  have hF' := ex.F d x hF
  have hne : ∀ b : Addr, w'.F b = none → b ≠ d := fun b e z => by rw [z, hF'] at e; cases e
  refine .inl (hP _ ⟨o'.le, fun b y h => ?_, o'.rs, o'.vl, fun i c e => ?_, o'.oi, o'.ce, o'.cl, fun a m => ?_, o'.cn, o'.ln⟩ fun r v rr => ?_)
  · refine o'.bs b y ?_
    by_cases z : b = d
    · subst z; rw [upd_same, hB y h]
    · rw [upd_ne z]; exact h
  · obtain ⟨a1, a2, a3, a4, a5⟩ := o'.ow i c e
    exact ⟨a1, a2, a3, by rw [upd_ne (hne _ a3)] at a4; exact a4, a5⟩
  · obtain ⟨a1, a2⟩ := o'.cf a m
    exact ⟨a1, by rw [upd_ne (hne a a1)] at a2; exact a2⟩
  · cases r with
    | val d => exact rr
    | slo i => exact rr
    | new c =>
      obtain ⟨p, e, x, h1, h2, h3⟩ := rr
      exact ⟨p, e, x, h1, by rw [upd_ne (hne p h1)] at h2; exact h2, h3⟩
/-- a locked dict's frame -/
theorem lock_ok (o : Ok B R w σ H ss) {d : Addr} {u : HO} {od : Obj} (hF : w.F d = some u) (hd : H d = some u) : Ok (upd B d (.frz od u)) R w σ (upd H d (.frz od u)) ss := by
  have hne : ∀ b : Addr, w.F b = none → b ≠ d := fun b e z => by rw [z, hF] at e; cases e
  have ks : ∀ {a : Addr} {c : C}, w.F a = none → Cel w H a c → Cel w (upd H d (.frz od u)) a c := fun {a c} hn x => x.ext (.refl w) (upd_ne (hne a hn))
  refine ⟨fun a x h => ?_, fun b x h => ?_, fun a r => ?_, o.vl, fun i c e => ?_, o.oi, fun n c e => ?_, o.cl, fun a m => ?_, o.cn, o.ln⟩
  · by_cases z : a = d
    · subst z
      rw [hF] at h; cases h
      exact .inr ⟨od, upd_same⟩
    · unfold Rd
      rw [upd_ne z]
      exact o.le a x h
  · by_cases z : b = d
    · subst z
      rw [upd_same] at h ⊢
      exact h
    · rw [upd_ne z] at h ⊢
      exact o.bs b x h
  · obtain ⟨a1, a2, x, hx⟩ := o.rs a r
    exact ⟨a1, a2, x, by rw [upd_ne (hne a a1)]; exact hx⟩
  · obtain ⟨a1, a2, a3, a4, a5⟩ := o.ow i c e
    exact ⟨a1, ks a3 a2, a3, by rw [upd_ne (hne _ a3)]; exact a4, a5⟩
  · obtain ⟨a, a1, a2⟩ := o.ce n c e
    exact ⟨a, a1, ks (o.cf a (List.mem_of_getElem? a1)).1 a2⟩
  · obtain ⟨a1, a2⟩ := o.cf a m
    exact ⟨a1, by rw [upd_ne (hne a a1)]; exact a2⟩
theorem unlock_back {w1 : Wd} {d : Addr} {u : HO} {od : Obj} (hF : w1.F d = some u) (hB : ∀ x, B d = some x → x = u) (h0 : ∀ o' u', X.H_0 d ≠ some (.frz o' u')) : Back X B R (upd B d (.frz od u)) R w1 := by
  intro w' σ' H' ss' o' ex P hP
  have hF' : w'.F d = some u := ex.F d u hF
  have hd : H' d = some (.frz od u) := o'.bs d _ upd_same
  have hne : ∀ b : Addr, w'.F b = none → b ≠ d := fun b e z => by rw [z, hF'] at e; cases e
  have ks : ∀ {a : Addr} {c : C}, w'.F a = none → Cel w' H' a c → Cel w' (upd H' d u) a c := fun {a c} hn x => x.ext (.refl w') (upd_ne (hne a hn))
  refine .inr ⟨d, od, u, hd, h0, hP _ ⟨fun a x h => ?_, fun b x h => ?_, fun a r => ?_, o'.vl, fun i c e => ?_, o'.oi, fun n c e => ?_, o'.cl, fun a m => ?_, o'.cn, o'.ln⟩ fun r v rr => ?_⟩
  · by_cases z : a = d
    · subst z
      rw [hF'] at h; cases h
      exact .inl upd_same
    · unfold Rd
      rw [upd_ne z]
      exact o'.le a x h
  · by_cases z : b = d
    · subst z
      rw [upd_same, hB x h]
    · rw [upd_ne z]
      exact o'.bs b x (by rw [upd_ne z]; exact h)
  · obtain ⟨a1, a2, x, hx⟩ := o'.rs a r
    exact ⟨a1, a2, x, by rw [upd_ne (hne a a1)]; exact hx⟩
  · obtain ⟨a1, a2, a3, a4, a5⟩ := o'.ow i c e
    exact ⟨a1, ks a3 a2, a3, by rw [upd_ne (hne _ a3)] at a4; exact a4, a5⟩
  · obtain ⟨a, a1, a2⟩ := o'.ce n c e
    exact ⟨a, a1, ks (o'.cf a (List.mem_of_getElem? a1)).1 a2⟩
  · obtain ⟨a1, a2⟩ := o'.cf a m
    exact ⟨a1, by rw [upd_ne (hne a a1)] at a2; exact a2⟩
  · cases r with
    | val d => exact rr
    | slo i => exact rr
    | new c =>
      obtain ⟨p, e, x, h1, h2, h3⟩ := rr
      exact ⟨p, e, ks h1 x, h1, by rw [upd_ne (hne p h1)] at h2; exact h2, h3⟩
/-- the signs of a text -/
def signs (z : Str) : List D := z.cps.toList.map fun c => .str ⟨#[c]⟩
/-- what a datum gives when it is walked -/
def walkD (d : D) (k : List D → Prop) : Prop := match d with
  | .lst ds => k ds
  | .tup ds => k ds
  | .str z => k (signs z)
  | .dic kvs => k (kvs.map fun kv => kD kv.1)
  | _ => False
def fAny (fe : WE) : WI := fun ss G => fe ss fun r s => fz r s fun d s => walkD d fun ds => G ds s
theorem RepK.get {w : Wd} : ∀ {ds : List (Key × D)} {vs : List (Key × V)} {i : Nat} {k : Key} {v : V}, RepK w ds vs → vs[i]? = some (k, v) → ∃ d, ds[i]? = some (k, d) ∧ Rep w d v
  | [], _, _, _, _, h, h' => by subst h; simp at h'
  | (k, d) :: ds, _, 0, _, _, ⟨v, us, e1, h1, h2⟩, h => by subst e1; simp at h; obtain ⟨rfl, rfl⟩ := h; exact ⟨d, rfl, h1⟩
  | (k, d) :: ds, _, i + 1, _, _, ⟨v, us, e1, h1, h2⟩, h => by subst e1; simp at h; obtain ⟨u, e, r⟩ := RepK.get h2 h; exact ⟨u, by simpa using e, r⟩
theorem rep_kD {w : Wd} (k : Key) : Rep w (kD k) (kV k) := by
  cases k <;> rfl
theorem list_runs {K : PySem.W.Frag} {a : Addr} {ds : List D} {vs : List V} {B1 : Hp} {R1 : Addr → Prop} {w1 : Wd} (hF : w1.F a = some (.lst vs)) (hr : RepL w1 ds vs) : Runs B1 R1 w1 (Itl K a) ds := by
  intro Be Re' w' σ' H' ss' hB o ex
  have q : SqL K H' a vs := .inl (o.le a _ (ex.F a _ hF))
  refine ⟨fun i hi => ?_, fun i hi => ⟨vs, q, by rw [hr.length]; exact hi⟩⟩
  obtain ⟨v, hv, rv⟩ := hr.get (List.getElem?_eq_getElem hi)
  refine ⟨⟨vs, v, q, hv⟩, fun x H'' ⟨e, y⟩ => ?_⟩
  subst e
  have := y vs q
  rw [hv] at this; cases this
  exact ⟨_, w', List.getElem?_eq_getElem hi, o, .refl w', rv.ext ex⟩
theorem tup_runs {K : PySem.W.Frag} {a : Addr} {ds : List D} {vs : List V} {B1 : Hp} {R1 : Addr → Prop} {w1 : Wd} (hF : w1.F a = some (.tup vs)) (hr : RepL w1 ds vs) : Runs B1 R1 w1 (Itt K a) ds := by
  intro Be Re' w' σ' H' ss' hB o ex
  have q : SqT K H' a vs := .inl (o.le a _ (ex.F a _ hF))
  refine ⟨fun i hi => ?_, fun i hi => ⟨vs, q, by rw [hr.length]; exact hi⟩⟩
  obtain ⟨v, hv, rv⟩ := hr.get (List.getElem?_eq_getElem hi)
  refine ⟨⟨vs, v, q, hv⟩, fun x H'' ⟨e, y⟩ => ?_⟩
  subst e
  have := y vs q
  rw [hv] at this; cases this
  exact ⟨_, w', List.getElem?_eq_getElem hi, o, .refl w', rv.ext ex⟩
theorem keys_runs {d : Addr} {ob : Obj} {ds : List (Key × D)} {kvs : List (Key × V)} {B1 : Hp} {R1 : Addr → Prop} {w1 : Wd} (hB : B1 d = some (.frz ob (.dK kvs))) (hr : RepK w1 ds kvs) : Runs B1 R1 w1 (Itk d ob kvs) (ds.map fun kv => kD kv.1) := by
  intro Be Re' w' σ' H' ss' hb o ex
  have hd := hb d _ hB
  refine ⟨fun i hi => ?_, fun i hi => ⟨hd, by rw [hr.length]; simpa using hi⟩⟩
  rw [List.length_map] at hi
  refine ⟨⟨hd, by rw [hr.length]; exact hi⟩, fun x H'' ⟨e, k, v, hkv, hx⟩ => ?_⟩
  subst e hx
  obtain ⟨d', e1, _⟩ := hr.get hkv
  exact ⟨kD k, w', by rw [List.getElem?_map, e1]; rfl, o, .refl w', rep_kD k⟩
theorem str_runs {z : Str} {B1 : Hp} {R1 : Addr → Prop} {w1 : Wd} : Runs B1 R1 w1 (Its z) (signs z) := by
  intro Be Re' w' σ' H' ss' hb o ex
  have hl : (signs z).length = z.cps.size := by unfold signs; rw [List.length_map, Array.length_toList]
  refine ⟨fun i hi => ⟨show i < z.cps.size by rw [← hl]; exact hi, fun x H'' ⟨e, c, hc, hx⟩ => ?_⟩, fun i hi => show z.cps.size ≤ i by rw [hl] at hi; exact hi⟩
  subst e hx
  exact ⟨.str ⟨#[c]⟩, w', by unfold signs; rw [List.getElem?_map, Array.getElem?_toList, hc]; rfl, o, .refl w', rfl⟩
theorem di_any {e : Expr} {fe : WE} {tg : Expr} (h : DE X e fe) : DI X tg e (fAny fe) := by
  obtain ⟨t, p, hf⟩ := h
  refine ⟨_, pi_any p, fun B R w σ H ss G Q o hw hq => hf B R w σ H ss _ _ o hw fun x H1 r s1 w1 o1 r1 e1 h1 => ?_⟩
  obtain ⟨d, s2, w2, o2, e2, r2, hk⟩ := fz_ok o1 r1 h1
  have e12 := e1.trans e2
  unfold walkD at hk
  split at hk
  · obtain ⟨a, vs, rfl, hF, rl⟩ := r2
    exact .inl ⟨a, rfl, ⟨vs, .inl (o2.le _ _ hF)⟩, hq _ H1 _ s2 w2 B R o2 e12 back_refl (list_runs hF rl) hk⟩
  · obtain ⟨a, vs, rfl, hF, rl⟩ := r2
    exact .inr (.inl ⟨a, rfl, ⟨vs, .inl (o2.le _ _ hF)⟩, hq _ H1 _ s2 w2 B R o2 e12 back_refl (tup_runs hF rl) hk⟩)
  · cases (show x = .str _ from r2)
    exact .inr (.inr (.inl ⟨_, rfl, hq _ H1 _ s2 w2 B R o2 e12 back_refl str_runs hk⟩))
  · obtain ⟨a, kws, rfl, hF, rk⟩ := r2
    refine .inr (.inr (.inr ⟨a, kws, rfl, ?_⟩))
    rcases o2.le _ _ hF with hd | ⟨ob, hd⟩
    · refine .inr ⟨hd, fun h0 ob => ?_⟩
      refine hq _ _ _ s2 w2 (upd B a (.frz ob (.dK kws))) R (lock_ok o2 hF hd) e12 (unlock_back hF (fun x hx => ?_) h0) (keys_runs upd_same rk) hk
      have := o2.bs a x hx
      rw [hd] at this
      exact (Option.some.inj this).symm
    · refine .inl ⟨ob, hd, ?_⟩
      refine hq _ _ _ s2 w2 (upd B a (.frz ob (.dK kws))) R (known_ok o2 hF hd) e12 (known_back hF fun x hx => ?_) (keys_runs upd_same rk) hk
      have := o2.bs a x hx
      rw [hd] at this
      exact (Option.some.inj this).symm
  · exact hk.elim
end
end Vl
namespace Vl
open PySem PySem.Spec L2
open PyProof.Rows hiding St

section
variable {X : Cx} {tg e a b c : Expr} {p pos apos cpos tpos : Pos} {fe : WE} {fr : WR}
/-! ### ranges -/
def upI (lo : Int) (n : Nat) : List D := (List.range n).map fun (i : Nat) => D.int (lo + i)
theorem upI_len (lo : Int) (n : Nat) : (upI lo n).length = n := by unfold upI; simp
theorem upI_get {lo : Int} {n i : Nat} (h : i < n) : (upI lo n)[i]? = some (.int (lo + i)) := by
  unfold upI
  rw [List.getElem?_map, List.getElem?_range h]; rfl
theorem range_runs {lo : Int} {n : Nat} {B1 : Hp} {R1 : Addr → Prop} {w1 : Wd} : Runs B1 R1 w1 (Itr lo n) (upI lo n) := by
  intro Be Re' w' σ' H' ss' hb o ex
  refine ⟨fun i hi => ?_, fun i hi => by rw [upI_len] at hi; exact hi⟩
  rw [upI_len] at hi
  refine ⟨hi, fun x H'' ⟨e, hx⟩ => ?_⟩
  subst e hx
  exact ⟨_, w', upI_get hi, o, .refl w', rfl⟩
def small62 (i : Int) : Prop := -(2 ^ 62) ≤ i ∧ i < 2 ^ 62
def kRg1 (rs : List D) (k : List D → Prop) : Prop := match rs with
  | [.int j] => small62 j ∧ k (upI 0 j.toNat)
  | _ => False
def kRg2 (rs : List D) (k : List D → Prop) : Prop := match rs with
  | [.int i, .int j] => (small62 i ∧ small62 j) ∧ k (upI i (j - i).toNat)
  | _ => False
def stepI (lo c : Int) (n : Nat) : List D := (List.range n).map fun (i : Nat) => D.int (lo + i * c)
def kRg3 (rs : List D) (k : List D → Prop) : Prop := match rs with
  | [.int i, .int j, .int c] => ∃ n, RgC i j c n ∧ k (stepI i c n)
  | _ => False
def fRg (kR : List D → (List D → Prop) → Prop) (fr : WR) : WI := fun ss G => fr ss fun rs s => vws rs s fun ds => kR ds fun xs => G xs s
theorem rangeC_runs {lo c : Int} {n : Nat} {B1 : Hp} {R1 : Addr → Prop} {w1 : Wd} : Runs B1 R1 w1 (Itc lo c n) (stepI lo c n) := by
  intro Be Re' w' σ' H' ss' hb o ex
  have hl : (stepI lo c n).length = n := by unfold stepI; simp
  refine ⟨fun i hi => ?_, fun i hi => by rw [hl] at hi; exact hi⟩
  rw [hl] at hi
  refine ⟨hi, fun x H'' ⟨e, hx⟩ => ?_⟩
  subst e hx
  exact ⟨.int (lo + (i : Nat) * c), w', by unfold stepI; rw [List.getElem?_map, List.getElem?_range hi]; rfl, o, .refl w', rfl⟩
theorem repTs_one {w : Wd} {H : Hp} {d : D} {vs : List V} (h : RepTs w H [d] vs) : ∃ v, vs = [v] ∧ RepT w H d v := by
  obtain ⟨v, us, rfl, r, e⟩ := h
  subst e
  exact ⟨v, rfl, r⟩
theorem repTs_two {w : Wd} {H : Hp} {d d' : D} {vs : List V} (h : RepTs w H [d, d'] vs) : ∃ v v', vs = [v, v'] ∧ RepT w H d v ∧ RepT w H d' v' := by
  obtain ⟨v, us, rfl, r, h⟩ := h
  obtain ⟨v', rfl, r'⟩ := repTs_one h
  exact ⟨v, v', rfl, r, r'⟩
theorem repTs_three {w : Wd} {H : Hp} {d d' d'' : D} {vs : List V} (h : RepTs w H [d, d', d''] vs) : ∃ v v' v'', vs = [v, v', v''] ∧ RepT w H d v ∧ RepT w H d' v' ∧ RepT w H d'' v'' := by
  obtain ⟨v, us, rfl, r, h⟩ := h
  obtain ⟨v', v'', rfl, r', r''⟩ := repTs_two h
  exact ⟨v, v', v'', rfl, r, r', r''⟩
theorem di_range1 (hm : X.mg "range" = none) (hg : Gl X "range" := by rfl) (ha : DR X [a] fr) (hs : starEach [a] X.env = [(false, eval a X.env)] := by rfl) : DI X tg (.Call (.Name "range" p) [a] [] pos) (fRg kRg1 fr) := by
  obtain ⟨t, pa, hf⟩ := ha
  refine ⟨_, pi_range1 hg hm pa hs, fun B R w σ H ss G Q o hw hq => hf B R w σ H ss _ _ o hw fun vs H1 rs s1 w1 o1 r1 e1 h1 => ?_⟩
  obtain ⟨ds, rd, hk⟩ := vws_ok o1 r1 h1
  unfold kRg1 at hk
  split at hk
  · obtain ⟨v, rfl, r⟩ := repTs_one rd
    cases (show v = .int _ from r)
    exact ⟨_, rfl, hk.1.1, hk.1.2, hq _ H1 _ s1 w1 B R o1 e1 back_refl range_runs hk.2⟩
  · exact hk.elim
theorem di_range2 (hm : X.mg "range" = none) (hg : Gl X "range" := by rfl) (ha : DR X [a, b] fr) (hs : starEach [a, b] X.env = [(false, eval a X.env), (false, eval b X.env)] := by rfl) (hs2 : starEach [b] X.env = [(false, eval b X.env)] := by rfl) : DI X tg (.Call (.Name "range" p) [a, b] [] pos) (fRg kRg2 fr) := by
  obtain ⟨t, pa, hf⟩ := ha
  refine ⟨_, pi_range2 hg hm pa hs hs2, fun B R w σ H ss G Q o hw hq => hf B R w σ H ss _ _ o hw fun vs H1 rs s1 w1 o1 r1 e1 h1 => ?_⟩
  obtain ⟨ds, rd, hk⟩ := vws_ok o1 r1 h1
  unfold kRg2 at hk
  split at hk
  · obtain ⟨v, v', rfl, r, r'⟩ := repTs_two rd
    cases (show v = .int _ from r)
    cases (show v' = .int _ from r')
    exact ⟨_, _, rfl, ⟨hk.1.1.1, hk.1.1.2, hk.1.2.1, hk.1.2.2⟩, hq _ H1 _ s1 w1 B R o1 e1 back_refl range_runs hk.2⟩
  · exact hk.elim
theorem di_range3 (hm : X.mg "range" = none) (hg : Gl X "range" := by rfl) (ha : DR X [a, b, c] fr) (hs : starEach [a, b, c] X.env = (false, eval a X.env) :: starEach [b, c] X.env := by rfl) (hpl : (backTo pos (starEach [b, c] X.env)).any (·.1) = false := by rfl) : DI X tg (.Call (.Name "range" p) [a, b, c] [] pos) (fRg kRg3 fr) := by
  obtain ⟨t, pa, hf⟩ := ha
  refine ⟨_, pi_range3 hg hm pa hs hpl, fun B R w σ H ss G Q o hw hq => hf B R w σ H ss _ _ o hw fun vs H1 rs s1 w1 o1 r1 e1 h1 => ?_⟩
  obtain ⟨ds, rd, hk⟩ := vws_ok o1 r1 h1
  unfold kRg3 at hk
  split at hk
  · obtain ⟨v, v', v'', rfl, r, r', r''⟩ := repTs_three rd
    cases (show v = .int _ from r)
    cases (show v' = .int _ from r')
    cases (show v'' = .int _ from r'')
    obtain ⟨n, hc, hk⟩ := hk
    exact ⟨_, _, _, n, rfl, hc, hq _ H1 _ s1 w1 B R o1 e1 back_refl rangeC_runs hk⟩
  · exact hk.elim

/-! ### enumerate, zip, a dict's items and values -/
def fzs (rs : List Re) (ss : SS) (k : List D → SS → Prop) : Prop := match rs with
  | [] => k [] ss
  | r :: rs => fz r ss fun d s => fzs rs s fun ds s => k (d :: ds) s
def numD (n : Nat) : List D → List D
  | [] => []
  | d :: ds => .tup [.int n, d] :: numD (n + 1) ds
theorem numD_len : ∀ (ds : List D) (n : Nat), (numD n ds).length = ds.length
  | [], _ => rfl
  | d :: ds, n => by rw [numD, List.length_cons, List.length_cons, numD_len ds]
theorem numD_get : ∀ (ds : List D) (n : Nat) {i : Nat} {d : D}, ds[i]? = some d → (numD n ds)[i]? = some (.tup [.int (n + i : Nat), d])
  | [], _, _, _, h => by simp at h
  | d :: ds, n, 0, _, h => by simp at h; subst h; rfl
  | d :: ds, n, i + 1, _, h => by
    rw [numD, List.getElem?_cons_succ, numD_get ds (n + 1) (by simpa using h)]
    have : n + 1 + i = n + (i + 1) := by omega
    rw [this]
def fEnum (fa : WA) : WI := fun ss G => fa ss fun ds s => match ds with
  | [.lst xs] => G (numD 0 xs) s
  | _ => False
theorem repL_one {w : Wd} {d : D} {vs : List V} (h : RepL w [d] vs) : ∃ v, vs = [v] ∧ Rep w d v := by
  obtain ⟨v, us, rfl, r, e⟩ := h
  subst e
  exact ⟨v, rfl, r⟩
theorem repL_two {w : Wd} {d d' : D} {vs : List V} (h : RepL w [d, d'] vs) : ∃ v v', vs = [v, v'] ∧ Rep w d v ∧ Rep w d' v' := by
  obtain ⟨v, us, rfl, r, h⟩ := h
  obtain ⟨v', rfl, r'⟩ := repL_one h
  exact ⟨v, v', rfl, r, r'⟩
theorem enum_runs {K : PySem.W.Frag} {a : Addr} {ds : List D} {vs : List V} {B1 : Hp} {R1 : Addr → Prop} {w1 : Wd} (hF : w1.F a = some (.lst vs)) (hr : RepL w1 ds vs) : Runs B1 R1 w1 (Ite K a) (numD 0 ds) := by
  intro Be Re' w' σ' H' ss' hB o ex
  have q : SqL K H' a vs := .inl (o.le a _ (ex.F a _ hF))
  refine ⟨fun i hi => ?_, fun i hi => ⟨vs, q, by rw [hr.length]; rw [numD_len] at hi; exact hi⟩⟩
  rw [numD_len] at hi
  obtain ⟨v, hv, rv⟩ := hr.get (List.getElem?_eq_getElem hi)
  refine ⟨⟨vs, v, q, hv⟩, fun x H'' ⟨T, y, hx, hT, e, hy⟩ => ?_⟩
  subst e hx
  have := hy vs q
  rw [hv] at this; cases this
  obtain ⟨o2, e2, r2⟩ := tup_ok o hT (vs := [.int (i : Nat), v]) (ds := [.int (0 + i : Nat), ds[i]]) ⟨_, _, rfl, by rw [Nat.zero_add]; rfl, _, _, rfl, rv.ext ex, rfl⟩
  exact ⟨_, _, numD_get ds 0 (List.getElem?_eq_getElem hi), o2, e2, r2⟩
theorem di_enum {fa : WA} {elts : List Expr} {kk : Nat} (hm : X.mg "enumerate" = none) (hg : Gl X "enumerate" := by rfl) (ha : DA X [e] fa) (hs : starEach [e] X.env = [(false, eval e X.env)] := by rfl) : DI X (.Tuple elts kk tpos) (.Call (.Name "enumerate" p) [e] [] pos) (fEnum fa) := by
  obtain ⟨t, pa, hf⟩ := ha
  refine ⟨_, pi_enum hg hm pa hs, fun B R w σ H ss G Q o hw hq => hf B R w σ H ss _ _ o hw fun vs H1 ds s1 w1 o1 r1 e1 h1 => ?_⟩
  split at h1
  · obtain ⟨v, rfl, r⟩ := repL_one r1
    obtain ⟨a, us, rfl, hF, rl⟩ := r
    exact ⟨a, us, rfl, .inl (o1.le _ _ hF), hq _ H1 _ s1 w1 B R o1 e1 back_refl (enum_runs hF rl) h1⟩
  · exact h1.elim
def zipD (xs ys : List D) : List D := List.zipWith (fun x y => .tup [x, y]) xs ys
def fZip (fa : WA) : WI := fun ss G => fa ss fun ds s => match ds with
  | [.lst xs, .lst ys] => G (zipD xs ys) s
  | _ => False
theorem zip_runs {K : PySem.W.Frag} {a b : Addr} {ds es : List D} {vs us : List V} {B1 : Hp} {R1 : Addr → Prop} {w1 : Wd} (hF : w1.F a = some (.lst vs)) (hr : RepL w1 ds vs) (hF' : w1.F b = some (.lst us)) (hr' : RepL w1 es us) : Runs B1 R1 w1 (Itz K a b) (zipD ds es) := by
  intro Be Re' w' σ' H' ss' hB o ex
  have q : SqL K H' a vs := .inl (o.le a _ (ex.F a _ hF))
  have q' : SqL K H' b us := .inl (o.le b _ (ex.F b _ hF'))
  have hl : (zipD ds es).length = min ds.length es.length := by unfold zipD; simp
  refine ⟨fun i hi => ?_, fun i hi => ⟨vs, us, q, q', by rw [hl] at hi; rw [hr.length, hr'.length]; omega⟩⟩
  rw [hl] at hi
  have h1 : i < ds.length := by omega
  have h2 : i < es.length := by omega
  obtain ⟨v, hv, rv⟩ := hr.get (List.getElem?_eq_getElem h1)
  obtain ⟨u, hu, ru⟩ := hr'.get (List.getElem?_eq_getElem h2)
  refine ⟨⟨vs, us, v, u, q, q', hv, hu⟩, fun x H'' ⟨T, y, z, hx, hT, e, hy, hz⟩ => ?_⟩
  subst e hx
  have := hy vs q
  rw [hv] at this; cases this
  have := hz us q'
  rw [hu] at this; cases this
  obtain ⟨o2, e2, r2⟩ := tup_ok o hT (vs := [v, u]) (ds := [ds[i], es[i]]) ⟨_, _, rfl, rv.ext ex, _, _, rfl, ru.ext ex, rfl⟩
  exact ⟨_, _, by unfold zipD; rw [List.getElem?_zipWith, List.getElem?_eq_getElem h1, List.getElem?_eq_getElem h2], o2, e2, r2⟩
theorem di_zip {fa : WA} {elts : List Expr} {kk : Nat} (hm : X.mg "zip" = none) (hg : Gl X "zip" := by rfl) (ha : DA X [a, b] fa) (hs : starEach [a, b] X.env = (false, eval a X.env) :: starEach [b] X.env := by rfl) (hpl : (backTo pos (starEach [b] X.env)).any (·.1) = false := by rfl) : DI X (.Tuple elts kk tpos) (.Call (.Name "zip" p) [a, b] [] pos) (fZip fa) := by
  obtain ⟨t, pa, hf⟩ := ha
  refine ⟨_, pi_zip hg hm pa hs hpl, fun B R w σ H ss G Q o hw hq => hf B R w σ H ss _ _ o hw fun vs H1 ds s1 w1 o1 r1 e1 h1 => ?_⟩
  split at h1
  · obtain ⟨v, v', rfl, r, r'⟩ := repL_two r1
    obtain ⟨a, us, rfl, hF, rl⟩ := r
    obtain ⟨b, us', rfl, hF', rl'⟩ := r'
    exact ⟨a, b, us, us', rfl, .inl (o1.le _ _ hF), .inl (o1.le _ _ hF'), hq _ H1 _ s1 w1 B R o1 e1 back_refl (zip_runs hF rl hF' rl') h1⟩
  · exact h1.elim

/-- a dict of known place: locked already, or to be locked -/
def dRun (X : Cx) (d : Addr) (kvs : List (Key × V)) (H1 : Hp) (R : Obj → Hp → Prop) : Prop :=
  (∃ o, H1 d = some (.frz o (.dK kvs)) ∧ R o H1) ∨ (H1 d = some (.dK kvs) ∧ ((∀ o' u', X.H_0 d ≠ some (.frz o' u')) → ∀ o, R o (upd H1 d (.frz o (.dK kvs)))))
theorem dRun_ok {pins : List (Addr × Obj)} {σ : St} {H1 : Hp} {s1 : Shared} {d : Addr} {kvs : List (Key × V)} {R : Obj → Hp → Prop} (I1 : Inv X pins σ H1 s1) (h : dRun X d kvs H1 R) : ∃ o H2, Inv X pins σ H2 s1 ∧ H2 d = some (.frz o (.dK kvs)) ∧ R o H2 := by
  rcases h with ⟨o, hd, q⟩ | ⟨hd, q⟩
  · exact ⟨o, H1, I1, hd, q⟩
  · obtain ⟨o, I2⟩ := I1.lock hd trivial
    exact ⟨o, _, I2, upd_same, q (I1.nofrz hd trivial) o⟩
def iItemsL (X : Cx) (td : TE) : TI := fun σ H R => td σ H fun x H1 => ∃ d kvs, x = .ref d ∧ dRun X d kvs H1 fun o H2 => R (Iti d o kvs) H2
def iValsL (X : Cx) (td : TE) : TI := fun σ H R => td σ H fun x H1 => ∃ d kvs, x = .ref d ∧ dRun X d kvs H1 fun o H2 => R (Itd d o kvs) H2
theorem pi_itemsL {td : TE} {elts : List Expr} {kk : Nat} (he : PE X e td) (hbase : attributeBase e "items" X.env (eval e X.env) = eval e X.env := by rfl) (hline : (apos.endLine == cpos.line) = true := by rfl) :
    PI X (.Tuple elts kk tpos) (.Call (.Attribute e "items" apos) [] [] cpos) (iItemsL X td) := by
  refine ⟨fun pins s σ H R I h => ?_⟩
  refine wpAny_Call_method (T := "dict") (id := "dict.items") hbase rfl hline F.plainAttrs_dict F.slot_dict_items F.type_dict_items (thn (he.run pins s σ H _ I h) fun u s1 ⟨x, H1, I1, rx, d, kvs, ex, hd⟩ => ?_)
  subst ex
  obtain rfl : u = Value.ref d := rx
  obtain ⟨o, H2, I1, hd, q⟩ := dRun_ok I1 hd
  obtain ⟨hs, hgd, hx, es, ep, vs, hdt, hsz, kv, hm⟩ := I1.frzK hd
  have hl : kvs.length = vs.length := Paired.length kv
  refine ⟨hm.dictOf.typeIs, hm.dictOf.mapOf.noDict, ?_⟩
  have I2 : Inv X pins σ H2 { s1 with heap := s1.heap.push { cls := .type "dict_items", data := .fields #[.ref d] } } := I1.kept (t' := s1.toks) fun b ob q => Heap.get?_push_of_some _ q
  have fin : wpAny (model X.prog X.w) X.A (pyIter (.ref s1.heap.objs.size)) (PIE X pins σ (.Tuple elts kk tpos) R) X.xe { s1 with heap := s1.heap.push { cls := .type "dict_items", data := .fields #[.ref d] } } := by
    refine wpAny_pyIter_items (d := d) (knd := mixKind X.prog X.w) ⟨_, Heap.get?_push_size _ rfl, rfl, rfl⟩ (hm.push _) (pi_one (tk := s1.toks) I2 _ (turn_items _ hdt) ⟨.none, .none, ?_⟩ q)
    rw [hl]
    exact Heap.get?_push_size _ rfl
  show wpAny _ _ (callWith cpos (.builtin "dict.items") [.ref d] [] []) _ X.xe s1
  exact method_meetsIn F.slot_dict_items F.entry_dict_items rfl (PySem.evalArgs_none ⟨rfl, hm.dictOf.typeIs, F.args_dict_items_1 _, _, meets_dict_items (mixKind X.prog X.w) d hs, ⟨vs, hm.dictOf⟩, fin⟩)
theorem pi_valuesL {td : TE} (he : PE X e td) (hbase : attributeBase e "values" X.env (eval e X.env) = eval e X.env := by rfl) (hline : (apos.endLine == cpos.line) = true := by rfl) : PI X tg (.Call (.Attribute e "values" apos) [] [] cpos) (iValsL X td) := by
  refine ⟨fun pins s σ H R I h => ?_⟩
  refine wpAny_Call_method (T := "dict") (id := "dict.values") hbase rfl hline F.plainAttrs_dict F.slot_dict_values F.type_dict_values (thn (he.run pins s σ H _ I h) fun u s1 ⟨x, H1, I1, rx, d, kvs, ex, hd⟩ => ?_)
  subst ex
  obtain rfl : u = Value.ref d := rx
  obtain ⟨o, H2, I1, hd, q⟩ := dRun_ok I1 hd
  obtain ⟨hs, hgd, hx, es, ep, vs, hdt, hsz, kv, hm⟩ := I1.frzK hd
  have hl : kvs.length = vs.length := Paired.length kv
  refine ⟨hm.dictOf.typeIs, hm.dictOf.mapOf.noDict, ?_⟩
  have I2 : Inv X pins σ H2 { s1 with heap := s1.heap.push { cls := .type "dict_values", data := .fields #[.ref d] } } := I1.kept (t' := s1.toks) fun b ob q => Heap.get?_push_of_some _ q
  have fin : wpAny (model X.prog X.w) X.A (pyIter (.ref s1.heap.objs.size)) (PIE X pins σ tg R) X.xe { s1 with heap := s1.heap.push { cls := .type "dict_values", data := .fields #[.ref d] } } := by
    refine wpAny_pyIter_values (d := d) (knd := mixKind X.prog X.w) ⟨_, Heap.get?_push_size _ rfl, rfl, rfl⟩ (hm.push _) (pi_one (tk := s1.toks) I2 _ (turn_vals _ hdt) ⟨_, Heap.get?_push_size _ rfl, rfl, ?_⟩ q)
    rw [hl] <;> rfl
  show wpAny _ _ (callWith cpos (.builtin "dict.values") [.ref d] [] []) _ X.xe s1
  exact method_meetsIn F.slot_dict_values F.entry_dict_values rfl (PySem.evalArgs_none ⟨rfl, hm.dictOf.typeIs, F.args_dict_values_1 _, _, meets_dict_values (mixKind X.prog X.w) d hs, ⟨vs, hm.dictOf⟩, fin⟩)
theorem items_runs {d : Addr} {ob : Obj} {ds : List (Key × D)} {kvs : List (Key × V)} {B1 : Hp} {R1 : Addr → Prop} {w1 : Wd} (hB : B1 d = some (.frz ob (.dK kvs))) (hr : RepK w1 ds kvs) : Runs B1 R1 w1 (Iti d ob kvs) (ds.map fun kv => .tup [kD kv.1, kv.2]) := by
  intro Be Re' w' σ' H' ss' hb o ex
  have hd := hb d _ hB
  refine ⟨fun i hi => ?_, fun i hi => ⟨hd, by rw [hr.length]; simpa using hi⟩⟩
  rw [List.length_map] at hi
  refine ⟨⟨hd, by rw [hr.length]; exact hi⟩, fun x H'' ⟨T, k, v, hkv, hx, hT, e⟩ => ?_⟩
  subst e hx
  obtain ⟨d', e1, r1⟩ := hr.get hkv
  obtain ⟨o2, e2, r2⟩ := tup_ok o hT (vs := [kV k, v]) (ds := [kD k, d']) ⟨_, _, rfl, rep_kD k, _, _, rfl, r1.ext ex, rfl⟩
  exact ⟨_, _, by rw [List.getElem?_map, e1]; rfl, o2, e2, r2⟩
theorem vals_runs {d : Addr} {ob : Obj} {ds : List (Key × D)} {kvs : List (Key × V)} {B1 : Hp} {R1 : Addr → Prop} {w1 : Wd} (hB : B1 d = some (.frz ob (.dK kvs))) (hr : RepK w1 ds kvs) : Runs B1 R1 w1 (Itd d ob kvs) (ds.map (·.2)) := by
  intro Be Re' w' σ' H' ss' hb o ex
  have hd := hb d _ hB
  refine ⟨fun i hi => ?_, fun i hi => ⟨hd, by rw [hr.length]; simpa using hi⟩⟩
  rw [List.length_map] at hi
  refine ⟨⟨hd, by rw [hr.length]; exact hi⟩, fun x H'' ⟨e, k, hkv⟩ => ?_⟩
  subst e
  obtain ⟨d', e1, r1⟩ := hr.get hkv
  exact ⟨d', w', by rw [List.getElem?_map, e1]; rfl, o, .refl w', r1.ext ex⟩
/-- the frame of a walk over a known dict -/
theorem dict_go {B : Hp} {R : Addr → Prop} {w w0 : Wd} {σ : St} {H : Hp} {ss : SS} (o : Ok B R w σ H ss) {a : Addr} {kws : List (Key × V)} (hF : w.F a = some (.dK kws)) {Q : Obj → Hp → Prop}
    (hq : ∀ ob H' B1, Ok B1 R w σ H' ss → Back X B R B1 R w → B1 a = some (.frz ob (.dK kws)) → Q ob H') : dRun X a kws H Q := by
  rcases o.le _ _ hF with hd | ⟨ob, hd⟩
  · refine .inr ⟨hd, fun h0 ob => hq ob _ (upd B a (.frz ob (.dK kws))) (lock_ok o hF hd) (unlock_back hF (fun x hx => ?_) h0) upd_same⟩
    have := o.bs a x hx
    rw [hd] at this
    exact (Option.some.inj this).symm
  · refine .inl ⟨ob, hd, hq ob H (upd B a (.frz ob (.dK kws))) (known_ok o hF hd) (known_back hF fun x hx => ?_) upd_same⟩
    have := o.bs a x hx
    rw [hd] at this
    exact (Option.some.inj this).symm
def fItems (fe : WE) : WI := fun ss G => fe ss fun r s => fz r s fun d s => match d with
  | .dic kvs => G (kvs.map fun kv => .tup [kD kv.1, kv.2]) s
  | _ => False
def fValues (fe : WE) : WI := fun ss G => fe ss fun r s => fz r s fun d s => match d with
  | .dic kvs => G (kvs.map (·.2)) s
  | _ => False
theorem di_items {elts : List Expr} {kk : Nat} (h : DE X e fe) (hbase : attributeBase e "items" X.env (eval e X.env) = eval e X.env := by rfl) (hline : (apos.endLine == cpos.line) = true := by rfl) : DI X (.Tuple elts kk tpos) (.Call (.Attribute e "items" apos) [] [] cpos) (fItems fe) := by
  obtain ⟨t, p, hf⟩ := h
  refine ⟨_, pi_itemsL p hbase hline, fun B R w σ H ss G Q o hw hq => hf B R w σ H ss _ _ o hw fun x H1 r s1 w1 o1 r1 e1 h1 => ?_⟩
  obtain ⟨d, s2, w2, o2, e2, r2, hk⟩ := fz_ok o1 r1 h1
  split at hk
  · obtain ⟨a, kws, rfl, hF, rk⟩ := r2
    exact ⟨a, kws, rfl, dict_go (w0 := w2) o2 hF fun ob H' B1 o3 bk hB => hq _ _ _ s2 w2 B1 R o3 (e1.trans e2) bk (items_runs hB rk) hk⟩
  · exact hk.elim
theorem di_values (h : DE X e fe) (hbase : attributeBase e "values" X.env (eval e X.env) = eval e X.env := by rfl) (hline : (apos.endLine == cpos.line) = true := by rfl) : DI X tg (.Call (.Attribute e "values" apos) [] [] cpos) (fValues fe) := by
  obtain ⟨t, p, hf⟩ := h
  refine ⟨_, pi_valuesL p hbase hline, fun B R w σ H ss G Q o hw hq => hf B R w σ H ss _ _ o hw fun x H1 r s1 w1 o1 r1 e1 h1 => ?_⟩
  obtain ⟨d, s2, w2, o2, e2, r2, hk⟩ := fz_ok o1 r1 h1
  split at hk
  · obtain ⟨a, kws, rfl, hF, rk⟩ := r2
    exact ⟨a, kws, rfl, dict_go (w0 := w2) o2 hF fun ob H' B1 o3 bk hB => hq _ _ _ s2 w2 B1 R o3 (e1.trans e2) bk (vals_runs hB rk) hk⟩
  · exact hk.elim
end
end Vl
namespace Vl
open PySem PySem.Spec L2
open PyProof.Rows hiding St

/-! ### readings that do not hang on the context -/
def rdV (f : WV) : TE := fun σ H Q => ∃ B R w ss G, Ok B R w σ H ss ∧ f ss G ∧ ∀ v H' d ss' w', Ok B R w' σ H' ss' → Rep w' d v → Ext w w' → G d ss' → Q v H'
def rdT (f : WT) : TT := fun σ H Q => ∃ B R w ss G, Ok B R w σ H ss ∧ f ss G ∧ ∀ b H' ss' w', Ok B R w' σ H' ss' → Ext w w' → G b ss' → Q b H'
def rdG (vs : List Nat) (g : WG) : TG := fun v σ H Q => ∃ B R w ss d K, Ok B R w σ H ss ∧ Rep w d v ∧ g d ss K ∧ ∀ σ' H' ss' w', Ok B R w' σ' H' ss' → Ext w w' → (∀ us : List Nat, (∀ i ∈ vs, i ∈ us) → wipe σ' us = wipe σ us) → K ss' → Q σ' H'
section
variable {X : Cx} {e : Expr} {es : List Expr} {pos : Pos}
theorem PE.imp {t t' : TE} (h : PE X e t) (k : ∀ σ H Q, t' σ H Q → t σ H Q) : PE X e t' := ⟨fun pins s σ H Q I hw => h.run pins s σ H Q I (k _ _ _ hw)⟩
theorem DV.pe {f : WV} (h : DV X e f) : PE X e (rdV f) := by
  obtain ⟨t, p, hf⟩ := h
  exact PE.imp p fun σ H Q ⟨B, R, w, ss, G, o, hw, hq⟩ => hf B R w σ H ss G Q o hw hq
theorem DT.pt {f : WT} (h : DT X e f) : PT X e (rdT f) := by
  obtain ⟨t, p, hf⟩ := h
  exact ⟨fun pins s σ H Q I ⟨B, R, w, ss, G, o, hw, hq⟩ => p.run pins s σ H Q I (hf B R w σ H ss G Q o hw hq)⟩
theorem DG.pg {vs : List Nat} {g : WG} (h : DG X vs e g) : PG X e (rdG vs g) := by
  obtain ⟨t, p, hf⟩ := h
  exact ⟨fun pins s σ H v u Q I r ⟨B, R, w, ss, d, K, o, rd, hg, hq⟩ => p.run pins s σ H v u Q I r (hf B R w σ H ss d v K Q o rd hg hq)⟩
/-- the tests of a comprehension -/
def DTs (X : Cx) (ifs : List Expr) (f : WT) : Prop := PTs X ifs (rdT f)
def gYes : WT := fun ss G => G true ss
theorem dts_nil : DTs X [] gYes := ⟨fun pins s σ H Q I ⟨B, R, w, ss, G, o, hw, hq⟩ => pts_nil.run pins s σ H Q I (hq true H ss w o (.refl w) hw)⟩
theorem dts_one {f : WT} (h : DT X e f) : DTs X [e] f := pts_one h.pt
end

theorem wipe_in {σ : St} {i : Nat} (hi : i < σ.length) : ∀ {vs : List Nat}, i ∈ vs → (wipe σ vs)[i]? = some none
  | v :: vs, h => by
    unfold wipe
    by_cases e : v = i
    · subst e
      rw [List.getElem?_set_self (by rw [wipe_length]; exact hi)]
    · rw [List.getElem?_set_ne e]
      exact wipe_in hi ((List.mem_cons.mp h).elim (fun z => (e z.symm).elim) id)
theorem wipe_wipe (σ : St) (vs : List Nat) : wipe (wipe σ vs) vs = wipe σ vs := by
  apply List.ext_getElem?
  intro i
  by_cases m : i ∈ vs
  · by_cases hi : i < σ.length
    · rw [wipe_in hi m, wipe_in (by rw [wipe_length]; exact hi) m]
    · rw [List.getElem?_eq_none (by rw [wipe_length, wipe_length]; omega), List.getElem?_eq_none (by rw [wipe_length]; omega)]
  · rw [wipe_out m]
/-! ### the block's own slots -/
def wipeR (r : List SV) : List Nat → List SV
  | [] => r
  | v :: vs => (wipeR r vs).set v .no
def wipeS (vs : List Nat) (s : SS) : SS := { s with r := wipeR s.r vs }
theorem wipeR_len (r : List SV) : ∀ vs : List Nat, (wipeR r vs).length = r.length
  | [] => rfl
  | v :: vs => by unfold wipeR; rw [List.length_set, wipeR_len r vs]
theorem wipeR_get {r : List SV} {i : Nat} {x : SV} : ∀ {vs : List Nat}, (wipeR r vs)[i]? = some x → (x = .no ∧ i ∈ vs) ∨ (i ∉ vs ∧ r[i]? = some x)
  | [], h => .inr ⟨by simp, h⟩
  | v :: vs, h => by
    unfold wipeR at h
    rcases set_get h with ⟨e1, e2, _⟩ | ⟨ne, h⟩
    · exact .inl ⟨e2, by rw [e1]; exact List.mem_cons_self⟩
    · rcases wipeR_get h with ⟨a, b⟩ | ⟨a, b⟩
      · exact .inl ⟨a, List.mem_cons_of_mem _ b⟩
      · exact .inr ⟨fun m => (List.mem_cons.mp m).elim ne a, b⟩
def keepV : Option SV → SV
  | some (.val d) => .val d
  | _ => .no
/-- the slots as they were ahead of the block -/
def unwR (r r' : List SV) : List Nat → List SV
  | [] => r'
  | v :: vs => (unwR r r' vs).set v (keepV r[v]?)
def unwS (s s' : SS) (vs : List Nat) : SS := { s' with r := unwR s.r s'.r vs }
theorem unwR_len (r r' : List SV) : ∀ vs : List Nat, (unwR r r' vs).length = r'.length
  | [] => rfl
  | v :: vs => by unfold unwR; rw [List.length_set, unwR_len r r' vs]
theorem unwR_get {r r' : List SV} {i : Nat} {x : SV} : ∀ {vs : List Nat}, (unwR r r' vs)[i]? = some x → (i ∈ vs ∧ x = keepV r[i]?) ∨ (i ∉ vs ∧ r'[i]? = some x)
  | [], h => .inr ⟨by simp, h⟩
  | v :: vs, h => by
    unfold unwR at h
    rcases set_get h with ⟨e1, e2, _⟩ | ⟨ne, h⟩
    · exact .inl ⟨by rw [e1]; exact List.mem_cons_self, by rw [e1]; exact e2⟩
    · rcases unwR_get h with ⟨a, b⟩ | ⟨a, b⟩
      · exact .inl ⟨List.mem_cons_of_mem _ a, b⟩
      · exact .inr ⟨fun m => (List.mem_cons.mp m).elim ne a, b⟩
section
variable {B : Hp} {R : Addr → Prop} {w : Wd} {σ : St} {H : Hp} {ss : SS}
theorem Ok.wiped (o : Ok B R w σ H ss) (vs : List Nat) : Ok B R w (wipe σ vs) H (wipeS vs ss) :=
  o.slots (by rw [wipeR_len, wipe_length]; exact o.ln) (fun i d h => by
    rcases wipeR_get h with ⟨e, _⟩ | ⟨ni, h⟩
    · cases e
    · obtain ⟨v, a1, a2⟩ := o.vl i d h
      exact ⟨v, by rw [wipe_out ni]; exact a1, a2⟩) (fun i c h => by
    rcases wipeR_get h with ⟨e, _⟩ | ⟨ni, h⟩
    · cases e
    · exact ⟨h, wipe_out ni⟩)
theorem Ok.unwiped {w' : Wd} {H' : Hp} {ss' : SS} (o : Ok B R w σ H ss) {B' : Hp} {R' : Addr → Prop} {vs : List Nat} (o' : Ok B' R' w' (wipe σ vs) H' ss') (ex : Ext w w') : Ok B' R' w' σ H' (unwS ss ss' vs) :=
  o'.slots (by rw [unwR_len, o'.ln, wipe_length]) (fun i d h => by
    rcases unwR_get h with ⟨mi, e⟩ | ⟨ni, h⟩
    · unfold keepV at e
      split at e
      · rename_i d' q
        cases e
        obtain ⟨v, a1, a2⟩ := o.vl i d q
        exact ⟨v, a1, a2.ext ex⟩
      · cases e
    · obtain ⟨v, a1, a2⟩ := o'.vl i d h
      exact ⟨v, by rw [wipe_out ni] at a1; exact a1, a2⟩) (fun i c h => by
    rcases unwR_get h with ⟨mi, e⟩ | ⟨ni, h⟩
    · unfold keepV at e
      split at e
      · cases e
      · cases e
    · exact ⟨h, (wipe_out ni).symm⟩)
/-- what is kept apart at p changes -/
theorem Ok.bump {p : Addr} {u u' : HO} (o : Ok (upd B p u) R w σ H ss) (hR : R p) : Ok (upd B p u') R w σ (upd H p u') ss := by
  obtain ⟨hF, hc, _⟩ := o.rs p hR
  have hne : ∀ {a : Addr} {c : C}, a ≠ p → Cel w H a c → Cel w (upd H p u') a c := fun {a c} h x => x.ext (.refl w) (upd_ne h)
  refine ⟨fun a x h => ?_, fun b x h => ?_, fun a r => ?_, o.vl, fun i c e => ?_, o.oi, fun n c e => ?_, o.cl, fun a m => ?_, o.cn, o.ln⟩
  · have ne : a ≠ p := fun z => by rw [z, hF] at h; cases h
    unfold Rd
    rw [upd_ne ne]
    exact o.le a x h
  · by_cases z : b = p
    · subst z; rw [upd_same] at h ⊢; exact h
    · rw [upd_ne z] at h ⊢
      exact o.bs b x (by rw [upd_ne z]; exact h)
  · obtain ⟨a1, a2, x, hx⟩ := o.rs a r
    refine ⟨a1, a2, ?_⟩
    by_cases z : a = p
    · exact ⟨u', by rw [z]; exact upd_same⟩
    · exact ⟨x, by rw [upd_ne z]; exact hx⟩
  · obtain ⟨a1, a2, a3, a4, a5⟩ := o.ow i c e
    have ne : w.os i ≠ p := fun z => by rw [z, upd_same] at a4; cases a4
    exact ⟨a1, hne ne a2, a3, by rw [upd_ne ne] at a4 ⊢; exact a4, a5⟩
  · obtain ⟨a, a1, a2⟩ := o.ce n c e
    have ne : a ≠ p := fun z => hc (z ▸ List.mem_of_getElem? a1)
    exact ⟨a, a1, hne ne a2⟩
  · obtain ⟨a1, a2⟩ := o.cf a m
    have ne : a ≠ p := fun z => hc (z ▸ m)
    exact ⟨a1, by rw [upd_ne ne] at a2 ⊢; exact a2⟩
/-- a new thing kept apart -/
theorem Ok.apart {p : Addr} {u : HO} (o : Ok B R w σ H ss) (hp : H p = none) : Ok (upd B p u) (fun a => R a ∨ a = p) w σ (upd H p u) ss := by
  obtain ⟨h1, h2, h3, h4, h5⟩ := o.fresh hp
  have o1 := o.grow (H' := upd H p u) fun b x e => by rw [upd_ne (ne_of_none e hp)]; exact e
  refine ⟨o1.le, fun b x h => ?_, fun a r => ?_, o1.vl, fun i c e => ?_, o1.oi, o1.ce, o1.cl, fun a m => ?_, o1.cn, o1.ln⟩
  · by_cases z : b = p
    · subst z; rw [upd_same] at h ⊢; exact h
    · rw [upd_ne z] at h; exact o1.bs b x h
  · rcases r with r | rfl
    · exact o1.rs a r
    · exact ⟨h1, h4, u, upd_same⟩
  · obtain ⟨a1, a2, a3, a4, a5, a6⟩ := o1.ow i c e
    have ne := h5 i c e
    exact ⟨a1, a2, a3, by rw [upd_ne ne]; exact a4, fun z => z.elim a5 ne, a6⟩
  · obtain ⟨a1, a2⟩ := o1.cf a m
    exact ⟨a1, by rw [upd_ne (fun z : a = p => h4 (z ▸ m))]; exact a2⟩
/-- .. and given out -/
theorem Ok.given {p : Addr} {u : HO} {c : C} (o : Ok (upd B p u) (fun a => R a ∨ a = p) w σ H ss) (hB : B p = none) (hR : ¬ R p) (hc : Cel w H p c) : Ok B R w σ H ss ∧ RepR B R w σ H ss (.new c) (.ref p) := by
  obtain ⟨hF, hcs, _⟩ := o.rs p (.inr rfl)
  have hw : ∀ (i : Nat) (c' : C), ss.r[i]? = some (.own c') → w.os i ≠ p := fun i c' e z => by
    obtain ⟨_, _, _, _, a5, _⟩ := o.ow i c' e
    exact a5 (.inr z)
  refine ⟨⟨o.le, fun b x h => ?_, fun a r => o.rs a (.inl r), o.vl, fun i c' e => ?_, o.oi, o.ce, o.cl, fun a m => ?_, o.cn, o.ln⟩, p, rfl, hc, hF, hB, hR, hcs, hw⟩
  · refine o.bs b x ?_
    rw [upd_ne (fun z => by rw [z, hB] at h; cases h)]; exact h
  · obtain ⟨a1, a2, a3, a4, a5, a6⟩ := o.ow i c' e
    exact ⟨a1, a2, a3, by rw [upd_ne (hw i c' e)] at a4; exact a4, fun z => a5 (.inl z), a6⟩
  · obtain ⟨a1, a2⟩ := o.cf a m
    exact ⟨a1, by rw [upd_ne (fun z : a = p => hcs (z ▸ m))] at a2; exact a2⟩
end

/-! ### [e for x in xs if ..] -/
def compW (g : WG) (gt : WT) (fe : WV) (vs : List Nat) : List D → List D → SS → (List D → SS → Prop) → Prop
  | [], acc, s, K => K acc s
  | d :: r, acc, s, K => g d s fun s1 => gt s1 fun b s2 => if b = true then fe s2 fun y s3 => acc.length < sizeLine ∧ compW g gt fe vs r (acc ++ [y]) (wipeS vs s3) K else compW g gt fe vs r acc (wipeS vs s2) K
def fLc (fi : WI) (g : WG) (gt : WT) (fe : WV) (vs : List Nat) : WE := fun ss G => fi ss fun ds s => compW g gt fe vs ds [] (wipeS vs s) fun acc s' => G (.new (.lst acc)) (unwS s s' vs)
/-- the reading of a comprehension from the words -/
theorem lc_runS {X : Cx} {wi : TI} {fi : WI} {g : WG} {gt : WT} {fe : WV} {vs vg : List Nat} (hv : ∀ i ∈ vg, i ∈ vs)
    (B : Hp) (R : Addr → Prop) (w : Wd) (σ : St) (H : Hp) (ss : SS) (G : Re → SS → Prop) (Q : VK)
    (hfi : ∀ (G : List D → SS → Prop) (Q : It → Hp → Prop), fi ss G → (∀ J H' ds ss' w' B1 R1, Ok B1 R1 w' σ H' ss' → Ext w w' → Back X B R B1 R1 w' → Runs B1 R1 w' J ds → G ds ss' → Q J H') → wi σ H Q)
    (o : Ok B R w σ H ss) (hw : fLc fi g gt fe vs ss G)
    (hq : ∀ v H' r ss' w', Ok B R w' σ H' ss' → RepR B R w' σ H' ss' r v → Ext w w' → G r ss' → Q v H') : tLc wi (rdG vg g) (rdT gt) (rdV fe) vs σ H (fun v H' => Unl X (Q v) H') := by
  refine hfi _ _ hw fun J H1 ds s1 w1 B1 R1 o1 e1 bk runs h1 p hp => ?_
  obtain ⟨pF, pB, pR, pc, po⟩ := o1.fresh hp
  have oA := (o1.wiped vs).apart (u := .lst []) hp
  refine ⟨fun i m H2 => m = ds.length - i ∧ i ≤ ds.length ∧ ∃ us acc ss' w', Ok (upd B1 p (.lst us)) (fun a => R1 a ∨ a = p) w' (wipe σ vs) H2 ss' ∧ Ext w1 w' ∧ RepL w' acc us ∧ compW g gt fe vs (ds.drop i) acc ss' fun acc s' => G (.new (.lst acc)) (unwS s1 s' vs),
    ⟨ds.length, by simp, Nat.zero_le _, [], [], _, w1, oA, .refl w1, rfl, h1⟩, ?_⟩
  rintro i m H2 ⟨rfl, hi, us, acc, s2, w2, o2, e2, ra, h2⟩
  have hB2 : ∀ b x, B1 b = some x → H2 b = some x := fun b x h => o2.bs b x (by rw [upd_ne (fun z => by rw [z, pB] at h; cases h)]; exact h)
  obtain ⟨go, stop⟩ := runs _ _ w2 _ H2 s2 hB2 o2 e2
  by_cases hlt : i < ds.length
  · obtain ⟨g1, g2⟩ := go i hlt
    refine .inr ⟨g1, fun H' => ∃ us acc ss' w', Ok (upd B1 p (.lst us)) (fun a => R1 a ∨ a = p) w' (wipe σ vs) H' ss' ∧ Ext w1 w' ∧ RepL w' acc us ∧ compW g gt fe vs (ds.drop (i + 1)) acc ss' fun acc s' => G (.new (.lst acc)) (unwS s1 s' vs),
      fun H' h => ⟨ds.length - (i + 1), by omega, rfl, hlt, h⟩, fun x H3 y => ?_⟩
    obtain ⟨d, w3, hd, o3, e3, r3⟩ := g2 x H3 y
    have hdrop : ds.drop i = d :: ds.drop (i + 1) := by
      rw [List.drop_eq_getElem_cons hlt]
      rw [List.getElem?_eq_getElem hlt] at hd
      rw [Option.some.inj hd]
    rw [hdrop] at h2
    refine ⟨_, _, w3, s2, d, _, o3, r3, h2, fun σ4 H4 s4 w4 o4 e4 q4 h4 => ⟨by rw [q4 vs hv]; exact wipe_wipe σ vs, ?_⟩⟩
    have q4' : wipe σ4 vs = wipe σ vs := by rw [q4 vs hv]; exact wipe_wipe σ vs
    refine ⟨_, _, w4, s4, _, o4, h4, fun b H5 s5 w5 o5 e5 h5 => ?_⟩
    have e15 := e2.trans (e3.trans (e4.trans e5))
    have e25 := e3.trans (e4.trans e5)
    cases b with
    | true =>
      refine iteT ⟨_, _, w5, s5, _, o5, h5, fun v H6 dy s6 w6 o6 r6 e6 ⟨hz, h6⟩ => ⟨us, ?_, ?_, ?_⟩⟩
      · exact o6.bs p _ upd_same
      · rw [ra.length]; exact hz
      · refine ⟨us ++ [v], acc ++ [dy], _, w6, ?_, e15.trans e6, (ra.ext (e25.trans e6)).append ⟨v, [], rfl, r6, rfl⟩, h6⟩
        have := (o6.wiped vs).bump (u' := .lst (us ++ [v])) (.inr rfl)
        rw [q4'] at this
        exact this
    | false =>
      refine iteF ⟨us, acc, _, w5, ?_, e15, ra.ext e25, h5⟩
      have := o5.wiped vs
      rw [q4'] at this
      exact this
  · have e : ds.drop i = [] := List.drop_eq_nil_of_le (by omega)
    rw [e] at h2
    refine .inl ⟨stop i (by omega), ?_⟩
    have h2 : G (.new (.lst acc)) (unwS s1 s2 vs) := h2
    have o2' := o1.unwiped o2 e2
    obtain ⟨o3, r3⟩ := o2'.given (c := .lst acc) pB pR ⟨us, o2.bs p _ upd_same, ra⟩
    exact bk w2 σ H2 _ o3 e2 _ fun H'' o'' tr => hq _ H'' _ _ w2 o'' (tr _ _ r3) (e1.trans e2) h2
theorem lc_run {X : Cx} {wi : TI} {fi : WI} {g : WG} {gt : WT} {fe : WV} {vs vg : List Nat} (hv : ∀ i ∈ vg, i ∈ vs)
    (hfi : ∀ (B : Hp) (R : Addr → Prop) (w : Wd) (σ : St) (H : Hp) (ss : SS) (G : List D → SS → Prop) (Q : It → Hp → Prop), Ok B R w σ H ss → fi ss G →
      (∀ J H' ds ss' w' B1 R1, Ok B1 R1 w' σ H' ss' → Ext w w' → Back X B R B1 R1 w' → Runs B1 R1 w' J ds → G ds ss' → Q J H') → wi σ H Q)
    (B : Hp) (R : Addr → Prop) (w : Wd) (σ : St) (H : Hp) (ss : SS) (G : Re → SS → Prop) (Q : VK) (o : Ok B R w σ H ss) (hw : fLc fi g gt fe vs ss G)
    (hq : ∀ v H' r ss' w', Ok B R w' σ H' ss' → RepR B R w' σ H' ss' r v → Ext w w' → G r ss' → Q v H') : tLc wi (rdG vg g) (rdT gt) (rdV fe) vs σ H (fun v H' => Unl X (Q v) H') :=
  lc_runS hv B R w σ H ss G Q (fun G' Q' => hfi B R w σ H ss G' Q' o) o hw hq
end Vl
namespace Vl
open PySem PySem.Spec L2
open PyProof.Rows hiding St

section
variable {X : Cx} {a b c e elt tg iter : Expr} {pos pos' spos py : Pos} {fe : WE} {fi : WI} {g : WG} {gt : WT} {fv : WV} {ifs : List Expr} {scope : Scope} {own : List (Str × Nat)} {vg : List Nat}
theorem de_lc (own : List (Str × Nat)) (hc : X.calm = true) (hN : X.N.Nodup) (ok : BlkOk X.N X.env.scope scope own) (hi : DI X tg iter fi)
    (hg : ∀ (s : Shared) (H : Hp) (C : Addr) (cl : List (Str × Addr)) (fp : List Addr), DG (X.blk s H scope (compEnvC scope cl C X.env) fp) vg tg g) (hv : ∀ i ∈ vg, i ∈ own.map (·.2))
    (ht : ∀ (s : Shared) (H : Hp) (C : Addr) (cl : List (Str × Addr)) (fp : List Addr), DTs (X.blk s H scope (compEnvC scope cl C X.env) fp) ifs gt)
    (he : ∀ (s : Shared) (H : Hp) (C : Addr) (cl : List (Str × Addr)) (fp : List Addr), DV (X.blk s H scope (compEnvC scope cl C X.env) fp) elt fv) (hs : ∀ x, foldedSetIterable iter X.env x = pure x := by intro _; rfl) :
    DE X (.ListComp elt [⟨tg, iter, ifs, 0⟩] scope pos) (fLc fi g gt fv (own.map (·.2))) := by
  obtain ⟨wi, pi, hfi⟩ := hi
  refine ⟨_, pe_unl (pe_lc hc hN pi ok (fun s H C cl fp => (hg s H C cl fp).pg) (fun s H C cl fp => ht s H C cl fp) (fun s H C cl fp => (he s H C cl fp).pe) hs), fun B R w σ H ss G Q o hw hq => ?_⟩
  exact lc_run hv hfi B R w σ H ss G Q o hw hq
theorem ds_setLc (own : List (Str × Nat)) {i : Nat} {y : Str} (hc : X.calm = true) (hN : X.N.Nodup) (hsw : swapsWith (.ListComp elt [⟨tg, iter, ifs, 0⟩] scope pos) (some (.Name y py)) spos.line X.env = pure true) (ok : BlkOk X.N X.env.scope scope own) (hi : DI X tg iter fi)
    (hg : ∀ (s : Shared) (H : Hp) (C : Addr) (cl : List (Str × Addr)) (fp : List Addr), DG (X.blk s H scope (compEnvC scope cl C X.env) fp) vg tg g) (hv : ∀ i ∈ vg, i ∈ own.map (·.2))
    (ht : ∀ (s : Shared) (H : Hp) (C : Addr) (cl : List (Str × Addr)) (fp : List Addr), DTs (X.blk s H scope (compEnvC scope cl C X.env) fp) ifs gt)
    (he : ∀ (s : Shared) (H : Hp) (C : Addr) (cl : List (Str × Addr)) (fp : List Addr), DV (X.blk s H scope (compEnvC scope cl C X.env) fp) elt fv)
    (hy : X.N[i]? = some y := by rfl) (hyl : X.env.scope.names.lookup y = some .local := by rfl) (hs : ∀ x, foldedSetIterable iter X.env x = pure x := by intro _; rfl) :
    DS X (.Assign [.Name y py] (.ListComp elt [⟨tg, iter, ifs, 0⟩] scope pos) spos) (sSet i (fLc fi g gt fv (own.map (·.2)))) := by
  obtain ⟨wi, pi, hfi⟩ := hi
  refine ⟨_, ps_unl (ps_setLc hc hN hy hyl hsw pi ok (fun s H C cl fp => (hg s H C cl fp).pg) (fun s H C cl fp => ht s H C cl fp) (fun s H C cl fp => (he s H C cl fp).pe) hs), fun B R w σ H ss E D o hw l => ?_⟩
  refine lc_run (Q := fun v H' => D.nx (σ.set i (some v)) H') hv hfi B R w σ H ss _ o hw fun v H' r ss' w' o' rr ex h => ?_
  obtain ⟨s2, w2, o2, e2, hk⟩ := set_ok o' rr h
  exact l.nx _ H' s2 w2 o2 (ex.trans e2) hk
end

/-! ### what may be changed -/
section
variable {B : Hp} {R : Addr → Prop} {w : Wd} {σ : St} {H : Hp} {ss : SS}
/-- an own slot, a cell: its content, and the content behind -/
def onC (ro : Re) (s : SS) (f : C → (C → D → Prop) → Prop) (k : D → SS → Prop) : Prop := match ro with
  | .slo j => (match s.r[j]? with
    | some (.own c) => f c fun c' d => k d { s with r := s.r.set j (.own c') }
    | some (.val (.loc n)) => (match s.S[n]? with
      | some c => f c fun c' d => k d { s with S := s.S.set n c' }
      | none => False)
    | _ => False)
  | .val (.loc n) => (match s.S[n]? with
    | some c => f c fun c' d => k d { s with S := s.S.set n c' }
    | none => False)
  | .new c => f c fun _ d => k d s
  | _ => False
theorem chg_ok (o : Ok B R w σ H ss) {a : Addr} {u : HO} (hF : w.F a = none) (hB : B a = none) (hR : ¬ R a) {ss' : SS}
    (hs : ss'.r.length = ss.r.length) (hv : ∀ (i : Nat) (d : D), ss'.r[i]? = some (.val d) → ss.r[i]? = some (.val d))
    (ho : ∀ (i : Nat) (c : C), ss'.r[i]? = some (.own c) → (∃ c0, ss.r[i]? = some (.own c0)) ∧ ((w.os i ≠ a ∧ ss.r[i]? = some (.own c)) ∨ (w.os i = a ∧ Cel w (upd H a u) a c)))
    (hS : ss'.S.length = ss.S.length) (hc : ∀ (n : Nat) (c : C) (b : Addr), ss'.S[n]? = some c → w.cs[n]? = some b → (b ≠ a ∧ ss.S[n]? = some c) ∨ (b = a ∧ Cel w (upd H a u) a c)) : Ok B R w σ (upd H a u) ss' := by
  refine ⟨fun b x h => ?_, fun b x h => ?_, fun b r => ?_, fun i d e => o.vl i d (hv i d e), fun i c e => ?_, fun i j c c' e e' z => ?_, fun n c e => ?_, by rw [hS]; exact o.cl, o.cf, o.cn, by rw [hs]; exact o.ln⟩
  · unfold Rd
    rw [upd_ne (fun z => by rw [z, hF] at h; cases h)]
    exact o.le b x h
  · rw [upd_ne (fun z => by rw [z, hB] at h; cases h)]
    exact o.bs b x h
  · obtain ⟨a1, a2, x, hx⟩ := o.rs b r
    exact ⟨a1, a2, x, by rw [upd_ne (fun z : b = a => hR (z ▸ r))]; exact hx⟩
  · obtain ⟨⟨c0, e0⟩, h⟩ := ho i c e
    obtain ⟨a1, a2, a3⟩ := o.ow i c0 e0
    rcases h with ⟨ne, e1⟩ | ⟨z, x⟩
    · rw [e0] at e1; cases e1
      exact ⟨a1, a2.ext (.refl w) (upd_ne ne), a3⟩
    · exact ⟨a1, by rw [z]; exact x, a3⟩
  · obtain ⟨⟨c0, e0⟩, _⟩ := ho i c e
    obtain ⟨⟨c1, e1⟩, _⟩ := ho j c' e'
    exact o.oi i j c0 c1 e0 e1 z
  · have hn : n < ss.S.length := by rw [← hS]; exact (List.getElem?_eq_some_iff.mp e).1
    obtain ⟨b, a1, a2⟩ := o.ce n _ (List.getElem?_eq_getElem hn)
    refine ⟨b, a1, ?_⟩
    rcases hc n c b e a1 with ⟨ne, e1⟩ | ⟨z, x⟩
    · rw [List.getElem?_eq_getElem hn] at e1; cases e1
      exact a2.ext (.refl w) (upd_ne ne)
    · rw [z]; exact x
theorem onC_ok (o : Ok B R w σ H ss) {ro : Re} {v : V} (h : RepR B R w σ H ss ro v) {f : C → (C → D → Prop) → Prop} {k : D → SS → Prop} (hk : onC ro ss f k) :
    ∃ (a : Addr) (c : C) (st : C → SS), v = .ref a ∧ Cel w H a c ∧ (∀ c' u, Cel w (upd H a u) a c' → Ok B R w σ (upd H a u) (st c')) ∧ f c fun c' d => k d (st c') := by
  have cell : ∀ n, Rep w (.loc n) v → (match ss.S[n]? with
      | some c => f c fun c' d => k d { ss with S := ss.S.set n c' }
      | none => False) → ∃ (a : Addr) (c : C) (st : C → SS), v = .ref a ∧ Cel w H a c ∧ (∀ c' u, Cel w (upd H a u) a c' → Ok B R w σ (upd H a u) (st c')) ∧ f c fun c' d => k d (st c') := fun n hr hk => by
    cases e : ss.S[n]? with
    | none => simp only [e] at hk
    | some c =>
      simp only [e] at hk
      obtain ⟨a, rfl, ha⟩ := hr
      obtain ⟨a', a1, a2⟩ := o.ce n c e
      rw [ha] at a1; cases a1
      obtain ⟨f1, f2⟩ := o.cf a (List.mem_of_getElem? ha)
      have nR : ¬ R a := fun r => (o.rs a r).2.1 (List.mem_of_getElem? ha)
      refine ⟨a, c, fun c' => { ss with S := ss.S.set n c' }, rfl, a2, fun c' u x => chg_ok o f1 f2 nR rfl (fun _ _ h => h) (fun i c1 h => ⟨⟨c1, h⟩, ?_⟩) (by simp) (fun m c1 b e1 e2 => ?_), hk⟩
      · exact .inl ⟨fun z => (o.ow i c1 h).2.2.2.2.2 (z ▸ List.mem_of_getElem? ha), h⟩
      · rcases set_get e1 with ⟨m1, m2, _⟩ | ⟨ne, m2⟩
        · subst m1 m2
          rw [ha] at e2; cases e2
          exact .inr ⟨rfl, x⟩
        · refine .inl ⟨fun z => ne ?_, m2⟩
          subst z
          exact ndl o.cn e2 ha
  cases ro with
  | new c =>
    obtain ⟨p, rfl, x, h1, h2, h3, h4, h5⟩ := h
    exact ⟨p, c, fun _ => ss, rfl, x, fun c' u y => chg_ok o h1 h2 h3 rfl (fun _ _ h => h) (fun i c1 q => ⟨⟨c1, q⟩, .inl ⟨h5 i c1 q, q⟩⟩) rfl (fun n c1 b e1 e2 => .inl ⟨fun z => h4 (z ▸ List.mem_of_getElem? e2), e1⟩), hk⟩
  | val d =>
    cases d with
    | loc n => exact cell n h hk
    | _ => exact hk.elim
  | slo j =>
    have h : σ[j]? = some (some v) := h
    cases e : ss.r[j]? with
    | none => unfold onC at hk; simp only [e] at hk
    | some x =>
      cases x with
      | no => unfold onC at hk; simp only [e] at hk
      | val d =>
        obtain ⟨v', a1, a2⟩ := o.vl j d e
        rw [h] at a1; cases a1
        cases d with
        | loc n => unfold onC at hk; simp only [e] at hk; exact cell n a2 hk
        | _ => unfold onC at hk; simp only [e] at hk
      | own c =>
        unfold onC at hk; simp only [e] at hk
        obtain ⟨a1, x, h1, h2, h3, h4⟩ := o.ow j c e
        rw [h] at a1; cases a1
        refine ⟨_, c, fun c' => { ss with r := ss.r.set j (.own c') }, rfl, x, fun c' u y => chg_ok o h1 h2 h3 (by simp) (fun i d q => ?_) (fun i c1 q => ?_) rfl (fun n c1 b e1 e2 => ?_), hk⟩
        · rcases set_get q with ⟨_, q, _⟩ | ⟨_, q⟩
          · cases q
          · exact q
        · rcases set_get q with ⟨m1, m2, _⟩ | ⟨ne, q⟩
          · cases m2
            subst m1
            exact ⟨⟨c, e⟩, .inr ⟨rfl, y⟩⟩
          · exact ⟨⟨c1, q⟩, .inl ⟨fun z => ne (o.oi i j c1 c q e z), q⟩⟩
        · exact .inl ⟨fun z => h4 (z ▸ List.mem_of_getElem? e2), e1⟩
end
section
variable {X : Cx} {o e i : Expr} {es : List Expr} {pos pos' apos cpos : Pos} {fo fi' fe : WE} {fv : WV} {fs : WA}
/-- o[i] = e -/
def putC (c : C) (di d : D) (k : C → D → Prop) : Prop := match c with
  | .lst xs => ∃ i j, di = .int i ∧ ixN xs.length i = some j ∧ k (.lst (xs.set j d)) .non
  | .dic kvs => ∃ key, keyOf di = some key ∧ kvs.length < sizeLine ∧ k (.dic (putD kvs key d)) .non
def rSetA : TSet := fun o i v H Q => rSetL o i v H Q ∨ ∃ a H', o = .ref a ∧ DPut H a i v H' ∧ Q H'
theorem set_any (hu : X.A.units + 1 < cLine) : PSet X rSetA := by
  intro pins s σ H o i v ov iv u Q I ro ri rv h
  rcases h with h | ⟨a, H', rfl, g, q⟩
  · exact set_list pins s σ H o i v ov iv u Q I ro ri rv h
  · cases ro
    exact d_setItem hu I g ri rv fun s' I' => ⟨H', I', q⟩
theorem put_run {w : Wd} {H : Hp} {a : Addr} {c : C} {di d : D} {vi v : V} {k : C → D → Prop} {Q : Hp → Prop} (hc : Cel w H a c) (hi : RepT w H di vi) (hd : Rep w d v) (hk : putC c di d k) (hq : ∀ c' u, Cel w (upd H a u) a c' → k c' .non → Q (upd H a u)) : rSetA (.ref a) vi v H Q := by
  cases c with
  | lst xs =>
    obtain ⟨vs, e, r⟩ := hc
    obtain ⟨n, j, rfl, hj, hk⟩ := hk
    cases (show vi = .int _ from hi)
    exact .inl ⟨a, vs, n, j, rfl, rfl, e, by rw [r.length]; exact hj, hq (.lst _) _ ⟨_, upd_same, r.set j hd⟩ hk⟩
  | dic kvs =>
    obtain ⟨vs, e, r⟩ := hc
    obtain ⟨key, hj, hz, hk⟩ := hk
    have hi' : Rep w di vi := by cases di <;> first | exact hi | cases hj
    obtain rfl := keyOf_rep hj hi'
    exact .inr ⟨a, _, rfl, DPut.k (k := key) e (by rw [r.length]; exact hz), hq (.dic _) _ ⟨_, upd_same, r.put key hd⟩ hk⟩
def gPut (fo fi : WE) : WG := fun d s K => fo s fun ro s => fi s fun ri s => vw ri s fun di => onC ro s (fun c k => putC c di d k) fun _ s => K s
/-- a store into a place, a target -/
def plainR (ro : Re) : Prop := match ro with
  | .new _ => False
  | _ => True
theorem dg_put {tpos : Pos} (hu : X.A.units + 1 < cLine) (ho : DE X o fo) (hi : DE X i fi')
    (ha : ∀ v, assign (.Subscript o i tpos) X.env v = (do
      let ov ← holding [v] (eval o X.env)
      let iv ← holding [v, ov] (eval i X.env)
      standAt tpos
      holding [v, ov, iv] (setItem ov iv v)
      release [v, ov, iv] []) := by intro _; rfl) : DG X [] (.Subscript o i tpos) (gPut fo fi') := by
  obtain ⟨t1, p1, h1⟩ := ho
  obtain ⟨t2, p2, h2⟩ := hi
  refine ⟨_, pg_sub p1 p2 (set_any hu) ha, fun B R w σ H ss d v K Q ok r hg hq => ?_⟩
  refine h1 B R w σ H ss _ _ ok hg fun x H1 ro s1 w1 o1 r1 e1 g1 => ?_
  obtain ⟨B', R', o1', hB, hR, back⟩ := o1.hold r1
  refine h2 B' R' w1 σ H1 s1 _ _ o1' g1 fun y H2 ri s2 w2 o2 r2 e2 g2 => ?_
  obtain ⟨o2', r1'⟩ := back w2 H2 s2 o2 e2
  obtain ⟨di, rdi, hk⟩ := vw_ok o2 r2 g2
  obtain ⟨a, c, st, rfl, hc, hst, hk⟩ := onC_ok o2' r1' hk
  exact put_run hc rdi (r.ext (e1.trans e2)) hk fun c' u x hk => hq σ _ (st c') w2 (hst c' u x) (e1.trans e2) (fun _ _ => rfl) hk

/-! ### methods that change a list, a dict -/
def isLst (ro : Re) (s : SS) : Prop := vw ro s fun d => match d with
  | .lst _ => True
  | _ => False
theorem ty_lst {B : Hp} {R : Addr → Prop} {w : Wd} {σ : St} {H : Hp} {ss : SS} (o : Ok B R w σ H ss) {ro : Re} {v : V} (h : RepR B R w σ H ss ro v) (hl : isLst ro ss) : tyV X.K "list" v H := by
  obtain ⟨d, rd, hd⟩ := vw_ok o h hl
  cases d with
  | lst xs => obtain ⟨a, vs, rfl, h1, _⟩ := rd; exact .inl ⟨rfl, vs, .inl h1⟩
  | _ => exact hd.elim
/-- o.m(e) of a list, by what it makes of the list -/
def fM1 (f : C → D → (C → D → Prop) → Prop) (fo : WE) (fv : WV) : WE := fun ss G => fo ss fun ro s => isLst ro s ∧ fv s fun d s => onC ro s (fun c k => f c d k) fun d' s => G (.val d') s
theorem de_m1 {name : Str} {id : String} {r : V → List V → Hp → VK → Prop} {f : C → D → (C → D → Prop) → Prop} (slot : Slot "list" name id) (hty : typeOf (.builtin id) = pure (.type "method_descriptor")) (hm : MtR X id r)
    (hf : ∀ (w : Wd) (H : Hp) (a : Addr) (c : C) (d : D) (v : V) (k : C → D → Prop) (Q : VK), Cel w H a c → Rep w d v → f c d k → (∀ c' u d' v', Cel w (upd H a u) a c' → Rep w d' v' → k c' d' → Q v' (upd H a u)) → r (.ref a) [v] H Q)
    (ho : DE X o fo) (he : DV X e fv) (hbase : attributeBase o name X.env (eval o X.env) = eval o X.env := by rfl)
    (hfew : ((backTo cpos (starEach [e] X.env)).all (fun x => !x.1) && (backToKw cpos (keywordEach [] X.env)).all (fun x => x.1.isSome)
      && decide ([e].length + ([] : List Keyword).length + (if ([] : List Keyword).isEmpty then 0 else 1) < 30)) = true := by rfl)
    (hline : (apos.endLine == cpos.line) = true := by rfl) (hs : starEach [e] X.env = [(false, eval e X.env)] := by rfl) : DE X (.Call (.Attribute o name apos) [e] [] cpos) (fM1 f fo fv) := by
  obtain ⟨t1, p1, h1⟩ := ho
  obtain ⟨t2, p2, h2⟩ := he
  refine ⟨_, pe_bm PySem.F.plainAttrs_list slot hty hm p1 (pa_cons p2 pa_nil hs) hbase hfew hline hs rfl, fun B R w σ H ss G Q ok hw hq => h1 B R w σ H ss _ _ ok hw fun x H1 ro s1 w1 o1 r1 e1 ⟨hl, g1⟩ => ⟨ty_lst o1 r1 hl, ?_⟩⟩
  obtain ⟨B', R', o1', hB, hR, back⟩ := o1.hold r1
  refine h2 B' R' w1 σ H1 s1 _ _ o1' g1 fun y H2 d s2 w2 o2 r2 e2 g2 => ?_
  obtain ⟨o2', r1'⟩ := back w2 H2 s2 o2 e2
  obtain ⟨a, c, st, rfl, hc, hst, hk⟩ := onC_ok o2' r1' g2
  exact hf w2 H2 a c d y _ _ hc r2 hk fun c' u d' v' x rd hk => hq _ _ (.val d') (st c') w2 (hst c' u x) rd (e1.trans e2) hk
def appC : C → D → (C → D → Prop) → Prop := fun c d k => match c with
  | .lst xs => xs.length < sizeLine ∧ k (.lst (xs ++ [d])) .non
  | _ => False
theorem de_append (ho : DE X o fo) (he : DV X e fv) (hbase : attributeBase o "append" X.env (eval o X.env) = eval o X.env := by rfl)
    (hfew : ((backTo cpos (starEach [e] X.env)).all (fun x => !x.1) && (backToKw cpos (keywordEach [] X.env)).all (fun x => x.1.isSome)
      && decide ([e].length + ([] : List Keyword).length + (if ([] : List Keyword).isEmpty then 0 else 1) < 30)) = true := by rfl)
    (hline : (apos.endLine == cpos.line) = true := by rfl) (hs : starEach [e] X.env = [(false, eval e X.env)] := by rfl) : DE X (.Call (.Attribute o "append" apos) [e] [] cpos) (fM1 appC fo fv) :=
  de_m1 PySem.F.slot_list_append PySem.F.type_list_append mt_append (fun w H a c d v k Q hc rd hf hq => by
    cases c with
    | lst xs =>
      obtain ⟨vs, e, r⟩ := hc
      exact ⟨a, vs, v, rfl, rfl, e, by rw [r.length]; exact hf.1, hq (.lst _) _ .non _ ⟨_, upd_same, r.append (es := [d]) ⟨v, [], rfl, rd, rfl⟩⟩ rfl hf.2⟩
    | dic _ => exact hf.elim) ho he hbase hfew hline hs
end
/-! ### isinstance of built-in classes; bit_length -/
def tyD : D → String
  | .non => "NoneType" | .bl _ => "bool" | .int _ => "int" | .str _ => "str" | .lst _ => "list" | .tup _ => "tuple" | .dic _ => "dict" | _ => ""
def isT (t n : String) : Bool := t == n || (t == "bool" && n == "int")
def tyN : List String := ["int", "bool", "str", "list", "tuple", "dict"]
def tyT : List String := ["NoneType", "bool", "int", "str", "list", "tuple", "dict"]
theorem kit_all : (tyT.all fun t => tyN.all fun n => kitB t n == some (isT t n)) = true := by decide +kernel
theorem kit_of' {t n : String} (ht : t ∈ tyT) (hn : n ∈ tyN) : kitB t n = some (isT t n) := by
  have h := List.all_eq_true.mp (List.all_eq_true.mp kit_all t ht) n hn
  simpa using h
section
variable {X : Cx} {a b e : Expr} {fr : WR} {fe : WE} {p pos apos : Pos}
theorem ty_rep {K : PySem.W.Frag} {w : Wd} {H : Hp} (le : Le w H) {d : D} {v : V} (h : tyD d ∈ tyT) (r : RepT w H d v) : TyX K H v (.type (tyD d)) := by
  cases d with
  | non => cases (show v = .non from r); exact .base .non
  | bl x => cases (show v = .bl x from r); exact .base (.bl x)
  | int x => cases (show v = .int x from r); exact .base (.int x)
  | str x => cases (show v = .str x from r); exact .base (.str x)
  | lst xs =>
    obtain ⟨l, vs, rfl, h1, _⟩ := r
    rcases h1 with h1 | ⟨o, h1⟩
    · exact .base (.lst h1)
    · exact .base (.frz h1)
  | tup xs =>
    obtain ⟨l, vs, rfl, h1, _⟩ := (show ∃ a vs, v = .ref a ∧ w.F a = some (.tup vs) ∧ RepL w _ vs from r)
    rcases le _ _ h1 with h1 | ⟨o, h1⟩
    · exact .base (.tup h1)
    · exact .fTuple h1
  | dic xs =>
    obtain ⟨l, vs, rfl, h1, _⟩ := r
    rcases h1 with h1 | ⟨o, h1⟩
    · exact .base (.dK h1)
    · exact .fDict h1
  | loc n => exact absurd (show ("" : String) ∈ tyT from h) (by decide)
  | raw u => exact absurd (show ("" : String) ∈ tyT from h) (by decide)
def kIsi : KC := k2 fun d c P => match c with
  | .raw (.ty n) => tyD d ∈ tyT ∧ n ∈ tyN ∧ P (.val (.bl (isT (tyD d) n)))
  | _ => False
theorem cx_isi : CallX (rIsi X.K) kIsi := callX2 fun w H d c v v' P Q le rd rc hk hq => by
  split at hk
  · obtain ⟨h1, h2, hp⟩ := hk
    cases (show v' = .ty _ from rc)
    exact ⟨v, .ty _, .type (tyD d), .type _, _, rfl, .ty _, ty_rep le h1 rd, kit_ty (kit_of' h1 h2), hq.old _ (.bl _) rfl hp⟩
  · exact hk.elim
theorem de_isi (hm : X.mg "isinstance" = none) (hg : Gl X "isinstance" := by rfl) (ha : DR X [a, b] fr) (he : starEach [a, b] X.env = (false, eval a X.env) :: starEach [b] X.env := by rfl) (hpl : (backTo pos (starEach [b] X.env)).any (·.1) = false := by rfl) : DE X (.Call (.Name "isinstance" p) [a, b] [] pos) (fBlt kIsi fr) :=
  de_blt call_isi cx_isi hm boot_isinstance hg ha (by decide) (by decide) he hpl
/-- a built-in class by its name -/
theorem de_ty {x : Str} {n : String} (hm : X.mg x = none) (hv : bootBuiltins x = some (.type n)) (hg : Gl X x) (hn : x ≠ "__name__" := by decide) (hd : (x == ("__debug__" : Str)) = false := by decide) : DE X (.Name x pos) (fCon (.raw (.ty n))) :=
  de_con (pe_bltn hg hm hv (show RelV (.ty n) (.type n) from rfl) hn hd) fun _ => rfl
def fBits (fe : WE) : WE := fun ss G => fe ss fun r s => isI r fun i => G (.val (.int (Builtin.Int.intBits i))) s
theorem de_bits {o : Expr} {cpos : Pos} (ho : DE X o fe) (hbase : attributeBase o "bit_length" X.env (eval o X.env) = eval o X.env := by rfl) (hline : (apos.endLine == cpos.line) = true := by rfl) : DE X (.Call (.Attribute o "bit_length" apos) [] [] cpos) (fBits fe) := by
  obtain ⟨t, p, hf⟩ := ho
  refine ⟨_, pe_bits p hbase hline, fun B R w σ H ss G Q ok hw hq => hf B R w σ H ss _ _ ok hw fun v H' r ss' w' o' rr ex hg => ?_⟩
  unfold isI at hg
  split at hg
  · exact ⟨_, rr, hq _ H' (.val (.int _)) ss' w' o' rfl ex hg⟩
  · exact hg.elim
end
end Vl
namespace Vl
open PySem PySem.Spec L2
open PyProof.Rows hiding St

/-! ### a def's body, and what it promises -/
def enOf (G : Re → List C → Prop) : En := ⟨fun ss => G (.val .non) ss.S, G, fun _ => False, fun _ => False⟩
def startS (N : List Str) (ds : List D) (S : List C) : SS := { r := ds.map SV.val ++ List.replicate (N.length - ds.length) SV.no, S := S }
theorem ok_start {w : Wd} {H : Hp} {S : List C} {ds : List D} {vs : List V} (p : Pre w H S) (r : RepL w ds vs) (N : List Str) : Ok (bOf w H) (rOf w H) w (L2.start N vs) H (startS N ds S) := by
  have hl := r.length
  have hv : ∀ (i : Nat) (x : SV), (startS N ds S).r[i]? = some x → (∃ d v, x = .val d ∧ (L2.start N vs)[i]? = some (some v) ∧ Rep w d v) ∨ x = .no := fun i x e => by
    unfold startS at e
    by_cases q : i < ds.length
    · rw [List.getElem?_append_left (by rw [List.length_map]; exact q), List.getElem?_map] at e
      rw [List.getElem?_eq_getElem q] at e
      obtain ⟨v, hv, rv⟩ := r.get (List.getElem?_eq_getElem q)
      refine .inl ⟨ds[i], v, (Option.some.inj e).symm, ?_, rv⟩
      unfold L2.start
      rw [List.getElem?_append_left (by rw [List.length_map, hl]; exact q), List.getElem?_map, hv]
      rfl
    · rw [List.getElem?_append_right (by rw [List.length_map]; omega)] at e
      have := List.eq_of_mem_replicate (List.mem_of_getElem? e)
      exact .inr this
  refine ⟨p.le, fun b o h => ?_, fun a h => ⟨h.2.1, h.2.2, h.1⟩, fun i d e => ?_, fun i c e => ?_, fun i j c c' e => ?_, p.ce, p.cl, fun a m => ⟨p.cf a m, bOf_in m⟩, p.cn, ?_⟩
  · by_cases m : b ∈ w.cs
    · rw [bOf_in m] at h; cases h
    · rw [bOf_out m] at h; exact h
  · rcases hv i _ e with ⟨d', v, e1, e2, e3⟩ | e1
    · cases e1; exact ⟨v, e2, e3⟩
    · cases e1
  · rcases hv i _ e with ⟨d', v, e1, e2, e3⟩ | e1
    · cases e1
    · cases e1
  · rcases hv i _ e with ⟨d', v, e1, e2, e3⟩ | e1
    · cases e1
    · cases e1
  · unfold startS L2.start
    simp [hl]
/-! ### room with no text being shown (repr), and what a def promises there -/
structure RoomG (k : Nat) (A : Around) : Prop extends Room k A where
  gd : A.guards = some []
theorem RoomG.le {j k : Nat} {A : Around} (r : RoomG k A) (h : j ≤ k) : RoomG j A := ⟨r.toRoom.mono h, r.gd⟩
theorem RoomG.down {k : Nat} {A : Around} (r : RoomG (k + 1) A) (env : Env) : RoomG k (A.deeper env) := ⟨r.toRoom.deeper env, r.gd⟩
structure FnG (P : Program) (w : World) (K : PySem.W.Frag) (mg : Str → Option Value) (base : Heap) (k : Nat) (f : Addr) (fd : FuncData) (ps : List Str) (sp : Sp) : Prop where
  ln : ∀ vs H Q E, sp vs H Q E → vs.length = ps.length
  go : ∀ (A : Around) (stk : List Env) (t : Shared) (H : Hp) (gs : Args) (us : List Value) (vs : List V) (Q : VK) (E : XK), RoomG k A → Env0 P w K mg base A stk t H → BindsTo t fd gs (ps.zip us) → Vals vs us → sp vs H Q E →
    codeAny (model P w) A (.call (.ref f) gs) (CR CX0 stk P w H t Q E) t
section
variable {P : Program} {w : World} {K : PySem.W.Frag} {mg : Str → Option Value} {base : Heap} {k : Nat} {f : Addr} {x qual : Str} {st : Stmt} {fd : FuncData} {N ps : List Str} {sp : Sp}
theorem fnG_ok (F : Fun K x qual st f fd) (S : FnScope N ps (defScope st)) (ln : ∀ vs H Q E, sp vs H Q E → vs.length = ps.length)
    (hb : ∀ (cdv : Value) (A : Around) (stk : List Env) (t : Shared) (H : Hp) (vs : List V) (Q : VK) (E : XK), RoomG k (A.deeper (envOfC qual (defScope st) t.heap.objs.size f cdv)) → sp vs H Q E →
      ∃ r, PSs (cxOf CX0 P w K mg base N qual (defScope st) f cdv A stk t H E).nox (defBody st) r ∧ r { nx := fun _ H' => Q .non H', rt := Q } (L2.start N vs) H) : FnG P w K mg base (k + 1) f fd ps sp := by
  obtain ⟨oc, od, kV, doc, pm, an, cdv, ct, osl, rfl, lk, hcd⟩ := F.ex
  refine ⟨ln, fun A stk t H gs us vs Q E room e0 bind rel psp => ?_⟩
  have hlen := ln _ _ _ _ psp
  have inK : K.In t.heap := e0.mod.kin.keeps fun b o e => (e0.bs b o e).1
  have nolim : t.heap.NoLimit := e0.mod.nolimit.keeps fun b o e => (e0.bs b o e).1
  have kinds : ∀ y ∈ ps.zip us, (defScope st).names.lookup y.1 = some .local ∨ ((defScope st).names.lookup y.1 = some .cell ∧ ((cellsFrom (t.heap.objs.size + 1) (defScope st).names []).lookup y.1).isSome = true) := by
    rintro ⟨n, v⟩ hy
    rcases S.par n (List.of_mem_zip hy).1 with q | q
    · exact .inl q
    · exact .inr ⟨q, PySem.W.cellsFrom_some _ _ _ (.inl q)⟩
  refine codeAny_call_function room.toRoom.depth (inK _ _ lk) rfl S.co S.gen rfl (PySem.W.codeRec_of inK hcd) (bind _ _ _ _ ?_)
  refine wpAny_newFunctionEnv_cells S.kind kinds fun env he t1 y => ?_
  subst he
  refine ⟨nolim.keeps y.toInCall.keep, codeAny_func ?_⟩
  obtain ⟨r, hr, hq⟩ := hb cdv A stk t H vs Q E (room.down _) psp
  have I : Inv (cxOf CX0 P w K mg base N qual (defScope st) f cdv A stk t H E) [] (L2.start N vs) H t1 := inv_start S room.hd e0 hlen rel y
  refine wpAny_mono (hr.nox.run [] t1 (L2.start N vs) H _ I hq) (fun fl t' hs => ?_) fun _ _ z => z
  cases fl with
  | ret u =>
    obtain ⟨v, σ', H', J, rv, q⟩ := hs
    exact ⟨v, H', J.os, J.bare, J.base, J.hok, rv, q⟩
  | next =>
    obtain ⟨σ', H', J, q⟩ := hs
    exact ⟨.non, H', J.os, J.bare, J.base, J.hok, rfl, q⟩
  | brk => exact hs.choose_spec.choose_spec.2.elim
  | cont => exact hs.choose_spec.choose_spec.2.elim
end
theorem fn_ok {P : Program} {w : World} {K : PySem.W.Frag} {mg : Str → Option Value} {base : Heap} {x qual : Str} {st : Stmt} {f : Addr} {fd : FuncData} {N ps : List Str} {k : Nat} {c : Ct} (F : Fun K x qual st f fd) (S : FnScope N ps (defScope st))
    (len : ∀ ds S G, c ds S G → ds.length = ps.length) (hbody : ∃ fb : WS, (∀ (cdv : Value) (A : Around) (outer : List Env) (s : Shared) (H : Hp) (E : XK), RoomG k (A.deeper (envOfC qual (defScope st) s.heap.objs.size f cdv)) → DSs (cxOf CX0 P w K mg base N qual (defScope st) f cdv A outer s H E).nox (defBody st) fb) ∧
      ∀ ds S G, c ds S G → fb (enOf G) (startS N ds S)) : FnG P w K mg base (k + 1) f fd ps (specOf c) := by
  obtain ⟨fb, h1, h2⟩ := hbody
  refine fnG_ok F S (fun vs H Q E h => ?_) (fun cdv A outer s H vs Q E hr h => ?_)
  · obtain ⟨w1, ds, S1, G, p, r, hc, _⟩ := h
    rw [r.length]; exact len ds S1 G hc
  · obtain ⟨w1, ds, S1, G, p, r, hc, hQ⟩ := h
    obtain ⟨t, pt, ht⟩ := h1 cdv A outer s H E hr
    refine ⟨t, pt, ht _ _ w1 _ H _ (enOf G) _ (ok_start p r N) (h2 ds S1 G hc) ⟨fun σ' H' ss' w' o ex h => ?_, fun v σ' H' r ss' w' o rr ns ex h => ?_, fun σ' H' ss' w' o ex h => h.elim, fun σ' H' ss' w' o ex h => h.elim⟩⟩
    · exact hQ .non H' ⟨.val .non, w', σ', ss', o, rfl, trivial, ex, h⟩
    · exact hQ v H' ⟨r, w', σ', ss', o, rr, ns, ex, h⟩

/-- a def of the module as it may be called -/
structure FnC (P : Program) (w : World) (K : PySem.W.Frag) (mg : Str → Option Value) (base : Heap) (x : Str) (st : Stmt) (ps : List Str) (c : Ct) (k : Nat) : Prop where
  ex : ∃ (f : Addr) (fd : FuncData), Fun K x x st f fd ∧ mg x = some (.ref f) ∧ FnG P w K mg base k f fd ps (specOf c) ∧ Binds K fd ps []
/-- keywords -/
def DK (X : Cx) (kws : List Keyword) (f : WA) : Prop := ∃ t, PK X kws t ∧ ∀ (B : Hp) (R : Addr → Prop) (w : Wd) (σ : St) (H : Hp) (ss : SS) (G : List D → SS → Prop) (Q : List V → Hp → Prop), Ok B R w σ H ss → f ss G →
  (∀ vs H' ds ss' w', Ok B R w' σ H' ss' → RepL w' ds vs → Ext w w' → G ds ss' → Q vs H') → t σ H Q
section
variable {X : Cx} {e : Expr} {es : List Expr} {kws : List Keyword} {fs gs : WA} {fe : WE} {c : Ct} {k j : Nat} {x : Str} {st : Stmt} {ps ks : List Str} {p pos kpos : Pos} {nm : Option Str}
theorem fn_back {f : Addr} {fd : FuncData} (F : FnG X.prog X.w X.K X.mg X.base k f fd ps (specOf c)) (hr : RoomG k X.A) {pins : List (Addr × Obj)} {σ : St} {H : Hp} {s : Shared} {Q : VK} {args : Args} {us : List Value} {vs : List V}
    (I : Inv X pins σ H s) (hb : BindsTo s fd args (ps.zip us)) (r : Vals vs us) (h : specOf c vs H Q E0) : wpAny (model X.prog X.w) X.A (call (.ref f) args.pos args.kw) (EP X pins σ Q) X.xe s := by
  refine wpAny_call (codeAny_mono (F.go X.A X.stack s H args us vs Q E0 hr I.env0 hb r h) fun r s' hq => ?_)
  cases r with
  | error e => exact hq.elim
  | ok fl =>
    cases fl with
    | ret u => exact I.after hq
    | next => exact False.elim hq
    | brk => exact False.elim hq
    | cont => exact False.elim hq
theorem de_fnA {ps0 : List Value} {dds : List D} {dvs : List V} (F : FnC X.prog X.w X.K X.mg X.base x st ps c k) (ha : DA X (e :: es) fs) (hr : RoomG j X.A) (hj : k ≤ j := by decide) (hg : Gl X x := by rfl)
    (hdb : (x == ("__debug__" : Str)) = false := by decide) (he : starEach (e :: es) X.env = (false, eval e X.env) :: starEach es X.env := by rfl) (hpl : (backTo pos (starEach es X.env)).any (·.1) = false := by rfl) :
    DE X (.Call (.Name x p) (e :: es) [] pos) (fCall c [] fs) := by
  obtain ⟨f, fd, hF, hm, hok, hb⟩ := F.ex
  obtain ⟨t, pa, hf⟩ := ha
  refine ⟨fun σ H Q => t σ H fun vs H1 => specOf c vs H1 Q E0, ⟨fun pins s σ H Q I h => ?_⟩, fun B R w σ H ss G Q o hw hq => hf B R w σ H ss _ _ o hw fun vs H1 ds s1 w1 o1 r1 e1 h1 => ?_⟩
  · refine wpAny_Call_Name_kw (ld_glob I hg hm ?_ hdb)
    refine PySem.W.callWith_K (h₀ := X.base) I.ok.mod.kin hF.kp (thn (pa.run pos pins s σ H _ I h) fun us s1 ⟨vs, H1, I1, r, q⟩ => ⟨I1.kIn, ?_⟩) he hpl
    have hl : us.length = ps.length := by rw [← r.length]; exact hok.ln _ _ _ _ q
    exact fn_back hok (hr.le hj) I1 (args := ⟨us, []⟩) (by have := hb s1 us I1.kIn (by rw [List.append_nil]; exact hl); rw [List.append_nil] at this; exact this) r q
  · refine ⟨w1, ds ++ [], s1.S, _, o1.pre, by rw [List.append_nil]; exact r1, h1, fun v H' p => ?_⟩
    obtain ⟨r, s2, w2, o2, r2, e2, hs, g⟩ := o1.called p
    refine hq v H' r s2 w2 o2 r2 (e1.trans e2) ?_
    have : s2 = { r := s1.r, S := s2.S } := by rw [← hs]
    rw [this]; exact g
theorem de_fn (F : FnC X.prog X.w X.K X.mg X.base x st ps c k) (ha : DA X (e :: es) fs) (hr : RoomG j X.A) (hj : k ≤ j := by decide) (hg : Gl X x := by rfl)
    (hdb : (x == ("__debug__" : Str)) = false := by decide) (he : starEach (e :: es) X.env = (false, eval e X.env) :: starEach es X.env := by rfl) (hpl : (backTo pos (starEach es X.env)).any (·.1) = false := by rfl) :
    DE X (.Call (.Name x p) (e :: es) [] pos) (fCall c [] fs) := de_fnA (ps0 := []) (dds := []) (dvs := []) F ha hr hj hg hdb he hpl
theorem de_fn0 (F : FnC X.prog X.w X.K X.mg X.base x st ps c k) (hr : RoomG j X.A) (hj : k ≤ j := by decide) (hg : Gl X x := by rfl) (hdb : (x == ("__debug__" : Str)) = false := by decide) : DE X (.Call (.Name x p) [] [] pos) (fCall c [] fNil) := by
  obtain ⟨f, fd, hF, hm, hok, hb⟩ := F.ex
  refine ⟨fun σ H Q => specOf c [] H Q E0, ⟨fun pins s σ H Q I h => ?_⟩, fun B R w σ H ss G Q o hw hq => ?_⟩
  · refine wpAny_Call_Name_kw (ld_glob I hg hm ?_ hdb)
    refine PySem.W.callWith_K0 I.kIn hF.kp ?_
    have hl : ([] : List Value).length = ps.length := hok.ln _ _ _ _ h
    exact fn_back hok (hr.le hj) I (args := ⟨[], []⟩) (us := []) (hb s [] I.kIn hl) .nil h
  · refine ⟨w, [], ss.S, _, o.pre, rfl, hw, fun v H' p => ?_⟩
    obtain ⟨r, s2, w2, o2, r2, e2, hs, g⟩ := o.called p
    refine hq v H' r s2 w2 o2 r2 e2 ?_
    have : s2 = { r := ss.r, S := s2.S } := by rw [← hs]
    rw [this]; exact g
theorem dk_nil : DK X [] fNil := ⟨_, pk_nil, fun B R w σ H ss G Q o hw hq => hq [] H [] ss w o rfl (.refl w) hw⟩
theorem dk_cons {fv : WV} (h1 : DV X e fv) (h2 : DK X kws fs) : DK X (⟨nm, e, kpos⟩ :: kws) (fCons fv fs) := by
  obtain ⟨t, p, hf⟩ := h1
  obtain ⟨t2, p2, hf2⟩ := h2
  refine ⟨_, pk_cons p p2, fun B R w σ H ss G Q o hw hq => hf B R w σ H ss _ _ o hw fun v H1 d s1 w1 o1 r1 e1 h1 => ?_⟩
  refine hf2 B R w1 σ H1 s1 _ _ o1 h1 fun vs H3 ds s3 w3 o3 r3 e3 h3 => ?_
  exact hq (v :: vs) H3 (d :: ds) s3 w3 o3 ⟨v, vs, rfl, r1.ext e3, r3⟩ (e1.trans e3) h3
/-- f(e, .., k = v, ..) -/
def fCallK (c : Ct) (n m : Nat) (g : List D → List D → List D) (fs gs : WA) : WE := fun ss G => fs ss fun ds s => gs s fun zs s => ds.length = n ∧ zs.length = m ∧ c (g ds zs) s.S fun r S' => G r { r := s.r, S := S' }
def tCallN0 (m : Nat) (sp : Sp) (gV : List V → List V → List V) (t tk : TA) : TE := fun σ H Q => t σ H fun vs H1 => tk σ H1 fun zs H2 => vs.length = m ∧ sp (gV vs zs) H2 Q E0
/-- how keywords bind -/
def KwB (x : Str) (st : Stmt) (ps ks : List Str) (n : Nat) (g : {α : Type} → List α → List α → List α) : Prop :=
  ∀ (kV doc pm : Value) (an : Option Addr) (cdv ct : Value) (us ws : List Value), us.length = n → ws.length = ks.length → bindArgs (PySem.W.fnOf x x (defArgs st) (defBody st) (defScope st) .none kV doc pm an cdv ct) ⟨us, ks.zip ws⟩ = pure (ps.zip (g us ws))
theorem de_fnK {n : Nat} (g : {α : Type} → List α → List α → List α) (F : FnC X.prog X.w X.K X.mg X.base x st ps c k) (hb : KwB x st ps ks n g) (hgr : ∀ {vs us zs ws}, Vals vs us → Vals zs ws → Vals (g vs zs) (g us ws)) (hgw : ∀ {w ds vs es us}, RepL w ds vs → RepL w es us → RepL w (g ds es) (g vs us))
    (ha : DA X (e :: es) fs) (hkw : DK X kws gs) (hr : RoomG j X.A) (hall : (backToKw pos (keywordEach kws X.env)).all (·.1.isSome) = true := by rfl) (hks : (backToKw pos (keywordEach kws X.env)).filterMap (·.1) = ks := by rfl) (hj : k ≤ j := by decide) (hg : Gl X x := by rfl)
    (hdb : (x == ("__debug__" : Str)) = false := by decide) (he : starEach (e :: es) X.env = (false, eval e X.env) :: starEach es X.env := by rfl)
    (hpl : ((backTo pos (starEach (e :: es) X.env)).any (·.1) || (backToKw pos (keywordEach kws X.env)).any (·.1.isNone)) = false := by rfl) :
    DE X (.Call (.Name x p) (e :: es) kws pos) (fCallK c n ks.length g fs gs) := by
  obtain ⟨f, fd, hF, hm, hok, _⟩ := F.ex
  obtain ⟨oc, od, kV, doc, pm, an, cdv, ct, osl, rfl, lk, hcd⟩ := hF.ex
  obtain ⟨t, pa, hf⟩ := ha
  obtain ⟨t2, pk, hf2⟩ := hkw
  refine ⟨fun σ H Q => t σ H fun vs H1 => t2 σ H1 fun zs H2 => vs.length = n ∧ zs.length = ks.length ∧ specOf c (g vs zs) H2 Q E0, ⟨fun pins s σ H Q I h => ?_⟩, fun B R w σ H ss G Q o hw hq => hf B R w σ H ss _ _ o hw fun vs H1 ds s1 w1 o1 r1 e1 h1 => ?_⟩
  · refine wpAny_Call_Name_kw (ld_glob I hg hm ?_ hdb)
    refine PySem.W.callWith_KW (h₀ := X.base) I.ok.mod.kin hF.kp hall (thn (pa.run pos pins s σ H _ I h) fun us s1 ⟨vs, H1, I1, r, q⟩ => ?_) hpl he
    refine thn (pk.run pos pins s1 σ H1 _ I1 q) fun ws s2 ⟨zs, H2, I2, rz, l1, l2, q2⟩ => ⟨I2.kIn, ?_⟩
    rw [hks]
    exact fn_back hok (hr.le hj) I2 (args := ⟨us, ks.zip ws⟩) (us := g us ws) (.of_eq (hb kV doc pm an cdv ct us ws (r.length.symm.trans l1) (rz.length.symm.trans l2))) (hgr r rz) q2
  · refine hf2 B R w1 σ H1 s1 _ _ o1 h1 fun zs H2 es s2 w2 o2 r2 e2 h2 => ?_
    obtain ⟨l1, l2, h2⟩ := h2
    refine ⟨r1.length.trans l1, r2.length.trans l2, w2, g ds es, s2.S, _, o2.pre, hgw (r1.ext e2) r2, h2, fun v H' p => ?_⟩
    obtain ⟨r, s3, w3, o3, r3, e3, hs, g3⟩ := o2.called p
    refine hq v H' r s3 w3 o3 r3 (e1.trans (e2.trans e3)) ?_
    have : s3 = { r := s2.r, S := s3.S } := by rw [← hs]
    rw [this]; exact g3
/-- f(k = v, ..) -/
theorem de_fnK0 (g : {α : Type} → List α → List α → List α) (F : FnC X.prog X.w X.K X.mg X.base x st ps c k) (hb : KwB x st ps ks 0 g) (hgr : ∀ {vs us zs ws}, Vals vs us → Vals zs ws → Vals (g vs zs) (g us ws)) (hgw : ∀ {w ds vs es us}, RepL w ds vs → RepL w es us → RepL w (g ds es) (g vs us))
    (hkw : DK X kws gs) (hr : RoomG j X.A) (hall : (backToKw pos (keywordEach kws X.env)).all (·.1.isSome) = true := by rfl) (hks : (backToKw pos (keywordEach kws X.env)).filterMap (·.1) = ks := by rfl) (hj : k ≤ j := by decide) (hg : Gl X x := by rfl)
    (hdb : (x == ("__debug__" : Str)) = false := by decide)
    (hpl : ((backTo pos (starEach [] X.env)).any (·.1) || (backToKw pos (keywordEach kws X.env)).any (·.1.isNone)) = false := by rfl) :
    DE X (.Call (.Name x p) [] kws pos) (fCallK c 0 ks.length g fNil gs) := by
  obtain ⟨f, fd, hF, hm, hok, _⟩ := F.ex
  obtain ⟨oc, od, kV, doc, pm, an, cdv, ct, osl, rfl, lk, hcd⟩ := hF.ex
  obtain ⟨t2, pk, hf2⟩ := hkw
  have hr1 := hr.le hj
  refine ⟨fun σ H Q => t2 σ H fun zs H2 => zs.length = ks.length ∧ specOf c (g [] zs) H2 Q E0, ⟨fun pins s σ H Q I h => ?_⟩, fun B R w σ H ss G Q o hw hq => ?_⟩
  · refine wpAny_Call_Name_kw (ld_glob I hg hm ?_ hdb)
    refine PySem.W.callWith_KW0 (h₀ := X.base) I.ok.mod.kin hF.kp hall ?_ hpl
    refine thn (pk.run pos pins s σ H _ I h) fun ws s2 ⟨zs, H2, I2, rz, l2, q2⟩ => ⟨I2.kIn, ?_⟩
    rw [hks]
    exact fn_back hok hr1 I2 (args := ⟨[], ks.zip ws⟩) (us := g [] ws) (.of_eq (hb kV doc pm an cdv ct [] ws rfl (rz.length.symm.trans l2))) (hgr .nil rz) q2
  · refine hf2 B R w σ H ss _ _ o hw fun zs H2 es s2 w2 o2 r2 e2 h2 => ?_
    obtain ⟨l1, l2, h2⟩ := h2
    refine ⟨r2.length.trans l2, w2, g [] es, s2.S, _, o2.pre, hgw (ds := []) (vs := []) rfl r2, h2, fun v H' p => ?_⟩
    obtain ⟨r, s3, w3, o3, r3, e3, hs, g3⟩ := o2.called p
    refine hq v H' r s3 w3 o3 r3 (e2.trans e3) ?_
    have : s3 = { r := s2.r, S := s3.S } := by rw [← hs]
    rw [this]; exact g3
end

/-! ### a, b = x, y -/
section
variable {X : Cx} {a b c : Expr} {fs : WA} {pos pt pt2 px py pz : Pos} {kt k2} {x y z : Str}
def putL (is : List Nat) (ds : List D) (r : List SV) : List SV := match is, ds with
  | i :: is, d :: ds => putL is ds (r.set i (.val d))
  | _, _ => r
def sPar2 (i j : Nat) (fs : WA) : WS := fun E ss => fs ss fun ds s => match ds with
  | [d, e] => E.nx { s with r := (s.r.set i (.val d)).set j (.val e) }
  | _ => False
def sPar3 (i j l : Nat) (fs : WA) : WS := fun E ss => fs ss fun ds s => match ds with
  | [d, e, g] => E.nx { s with r := ((s.r.set i (.val d)).set j (.val e)).set l (.val g) }
  | _ => False
theorem ds_par (i j : Nat) (hN : X.N.Nodup) (ha : DA X [a, b] fs) (hc : X.calm = true := by rfl) (hi : X.N[i]? = some x := by rfl) (hj : X.N[j]? = some y := by rfl) (hij : i ≠ j := by decide)
    (hx : X.env.scope.names.lookup x = some .local := by rfl) (hy : X.env.scope.names.lookup y = some .local := by rfl)
    (hw : swappedStores [.Tuple [.Name x px, .Name y py] kt pt] (.Tuple [a, b] k2 pt2) X.env = pure (some [x, y]) := by rfl)
    (hs : swapsWithSole [.Tuple [.Name x px, .Name y py] kt pt] (.Tuple [a, b] k2 pt2) pos.line X.env = pure false := by rfl) :
    DS X (.Assign [.Tuple [.Name x px, .Name y py] kt pt] (.Tuple [a, b] k2 pt2) pos) (sPar2 i j fs) := by
  obtain ⟨t, p, hf⟩ := ha
  refine ⟨_, ps_par hc hN hi hj hij hx hy p hw hs, fun B R w σ H ss E D o hw l => hf B R w σ H ss _ _ o hw fun vs H1 ds s1 w1 o1 r1 e1 h1 => ?_⟩
  match ds, h1 with
  | [d, e], h1 =>
    obtain ⟨v, us, rfl, q1, u, us2, rfl, q2, rfl⟩ := r1
    exact ⟨v, u, rfl, l.nx _ H1 _ w1 (set_val (set_val o1 q1 i) q2 j) e1 h1⟩
theorem ds_par3 (i j n : Nat) (hN : X.N.Nodup) (ha : DA X [a, b, c] fs) (hc : X.calm = true := by rfl) (hi : X.N[i]? = some x := by rfl) (hj : X.N[j]? = some y := by rfl) (hl : X.N[n]? = some z := by rfl) (hij : i ≠ j := by decide) (hil : i ≠ n := by decide) (hjl : j ≠ n := by decide)
    (hx : X.env.scope.names.lookup x = some .local := by rfl) (hy : X.env.scope.names.lookup y = some .local := by rfl) (hz : X.env.scope.names.lookup z = some .local := by rfl)
    (hw : swappedStores [.Tuple [.Name x px, .Name y py, .Name z pz] kt pt] (.Tuple [a, b, c] k2 pt2) X.env = pure (some [x, y, z]) := by rfl)
    (hs : swapsWithSole [.Tuple [.Name x px, .Name y py, .Name z pz] kt pt] (.Tuple [a, b, c] k2 pt2) pos.line X.env = pure false := by rfl) :
    DS X (.Assign [.Tuple [.Name x px, .Name y py, .Name z pz] kt pt] (.Tuple [a, b, c] k2 pt2) pos) (sPar3 i j n fs) := by
  obtain ⟨t, p, hf⟩ := ha
  refine ⟨_, ps_par3 hc hN hi hj hl hij hil hjl hx hy hz p hw hs, fun B R w σ H ss E D o hw l => hf B R w σ H ss _ _ o hw fun vs H1 ds s1 w1 o1 r1 e1 h1 => ?_⟩
  match ds, h1 with
  | [d, e, g], h1 =>
    obtain ⟨v, us, rfl, q1, u, us2, rfl, q2, u3, us3, rfl, q3, rfl⟩ := r1
    exact ⟨v, u, u3, rfl, l.nx _ H1 _ w1 (set_val (set_val (set_val o1 q1 i) q2 j) q3 n) e1 h1⟩
end

theorem hU {A : Around} {k : Nat} (hr : RoomG k A) : A.units + 64 < cLine := hr.units
theorem hU1 {A : Around} {k : Nat} (hr : RoomG k A) : A.units + 1 < cLine := hu_of hr.toRoom
end Vl
namespace Vl
open PySem PySem.Spec L2
open PyProof.Rows hiding St

theorem hU5 {A : Around} {k : Nat} (hr : RoomG k A) : A.units + 65 < cLine := by have := hr.un; omega
/-! ### a <= b <= c, of ints -/
section
variable {X : Cx} {a b c : Expr} {fa fb fc : WE} {pos : Pos}
def fCh (p q : Int → Int → Bool) (fa fb fc : WE) : WE := fun ss G => fa ss fun r s => isI r fun i => fb s fun r s => isI r fun j => if p i j = true then fc s fun r s => isI r fun k => G (.val (.bl (q j k))) s else G (.val (.bl false)) s
theorem isI_inv {r : Re} {k : Int → Prop} (h : isI r k) : ∃ i, r = .val (.int i) ∧ k i := by
  unfold isI at h
  split at h
  · exact ⟨_, rfl, h⟩
  · exact h.elim
theorem ch_run {p q : Int → Int → Bool} {ta tb tc : TE} (ha : ∀ (B : Hp) (R : Addr → Prop) (w : Wd) (σ : St) (H : Hp) (ss : SS) (G : Re → SS → Prop) (Q : VK), Ok B R w σ H ss → fa ss G → (∀ v H' r ss' w', Ok B R w' σ H' ss' → RepR B R w' σ H' ss' r v → Ext w w' → G r ss' → Q v H') → ta σ H Q)
    (hb : ∀ (B : Hp) (R : Addr → Prop) (w : Wd) (σ : St) (H : Hp) (ss : SS) (G : Re → SS → Prop) (Q : VK), Ok B R w σ H ss → fb ss G → (∀ v H' r ss' w', Ok B R w' σ H' ss' → RepR B R w' σ H' ss' r v → Ext w w' → G r ss' → Q v H') → tb σ H Q)
    (hc : ∀ (B : Hp) (R : Addr → Prop) (w : Wd) (σ : St) (H : Hp) (ss : SS) (G : Re → SS → Prop) (Q : VK), Ok B R w σ H ss → fc ss G → (∀ v H' r ss' w', Ok B R w' σ H' ss' → RepR B R w' σ H' ss' r v → Ext w w' → G r ss' → Q v H') → tc σ H Q)
    (B : Hp) (R : Addr → Prop) (w : Wd) (σ : St) (H : Hp) (ss : SS) (G : Re → SS → Prop) (Q : VK) (o : Ok B R w σ H ss) (hw : fCh p q fa fb fc ss G)
    (hq : ∀ v H' r ss' w', Ok B R w' σ H' ss' → RepR B R w' σ H' ss' r v → Ext w w' → G r ss' → Q v H') : tChain (rI0 fun i j => .bl (p i j)) (rI0 fun i j => .bl (q i j)) ta tb tc σ H Q := by
  refine ha B R w σ H ss _ _ o hw fun x H1 r s1 w1 o1 r1 e1 h1 => ?_
  obtain ⟨i, rfl, g1⟩ := isI_inv h1
  cases (show x = .int i from r1)
  refine hb B R w1 σ H1 s1 _ _ o1 g1 fun y H2 r s2 w2 o2 r2 e2 h2 => ?_
  obtain ⟨j, rfl, g2⟩ := isI_inv h2
  cases (show y = .int j from r2)
  refine ⟨i, j, rfl, rfl, p i j, rfl, ?_⟩
  split
  · rename_i hp
    rw [if_pos hp] at g2
    refine hc B R w2 σ H2 s2 _ _ o2 g2 fun z H3 r s3 w3 o3 r3 e3 h3 => ?_
    obtain ⟨k, rfl, g3⟩ := isI_inv h3
    cases (show z = .int k from r3)
    exact ⟨j, k, rfl, rfl, hq _ H3 (.val (.bl (q j k))) s3 w3 o3 rfl (e1.trans (e2.trans e3)) g3⟩
  · rename_i hp
    rw [if_neg hp] at g2
    exact hq _ H2 (.val (.bl false)) s2 w2 o2 rfl (e1.trans e2) g2
theorem dt_lele (ha : DE X a fa) (hb : DE X b fb) (hc : DE X c fc) (hm : lastMarks [.LtE, .LtE] [b, c] = false := by with_unfolding_all rfl) : DT X (.Compare a [.LtE, .LtE] [b, c] pos) (fT (fCh (fun i j => decide (i ≤ j)) (fun i j => decide (i ≤ j)) fa fb fc)) := by
  obtain ⟨ta, pa, ka⟩ := ha
  obtain ⟨tb, pb, kb⟩ := hb
  obtain ⟨tc, pc, kc⟩ := hc
  exact dt_of (pt_chain op_le op_le pa pb pc hm) (ch_run ka kb kc)
theorem dt_ltlt (ha : DE X a fa) (hb : DE X b fb) (hc : DE X c fc) (hm : lastMarks [.Lt, .Lt] [b, c] = false := by with_unfolding_all rfl) : DT X (.Compare a [.Lt, .Lt] [b, c] pos) (fT (fCh (fun i j => decide (i < j)) (fun i j => decide (i < j)) fa fb fc)) := by
  obtain ⟨ta, pa, ka⟩ := ha
  obtain ⟨tb, pb, kb⟩ := hb
  obtain ⟨tc, pc, kc⟩ := hc
  exact dt_of (pt_chain op_lt op_lt pa pb pc hm) (ch_run ka kb kc)
end

/-! ### lists related one by one -/
theorem repL_rel {w : Wd} : ∀ {ds : List D} {vs : List V}, RepL w ds vs → Paired (Rep w) ds vs
  | [], _, h => by cases (show _ = [] from h); exact .nil
  | d :: ds, _, h => by obtain ⟨v, us, rfl, h1, h2⟩ := h; exact .cons h1 (repL_rel h2)
theorem rel_repL {w : Wd} {ds : List D} {vs : List V} (h : Paired (Rep w) ds vs) : RepL w ds vs := by
  induction h with
  | nil => rfl
  | cons a b ih => exact ⟨_, _, rfl, a, ih⟩

/-! ### the head: the script -/
def noLst (K : PySem.W.Frag) : Bool := K.all fun p => !(p.2.cls == .type "list")
theorem noLst_lookup {a : Addr} {o : Obj} : ∀ {K : PySem.W.Frag}, noLst K = true → K.lookup a = some o → o.cls ≠ .type "list"
  | [], _, h => by cases h
  | (b, u) :: K, hk, h => by
    unfold noLst at hk
    rw [List.all_cons, Bool.and_eq_true] at hk
    rw [List.lookup_cons] at h
    cases e : (a == b) with
    | true =>
      rw [e] at h
      have h : some u = some o := h
      cases h
      intro z
      have := hk.1
      rw [z] at this
      revert this
      decide +kernel
    | false =>
      rw [e] at h
      exact noLst_lookup (K := K) hk.2 h
def oneH (a : Addr) (u : HO) : Hp := L2.upd (fun _ => none) a u
theorem oneH_same {a : Addr} {u : HO} : oneH a u a = some u := L2.upd_same
theorem oneH_of {a b : Addr} {u x : HO} (h : oneH a u b = some x) : b = a ∧ x = u := by
  unfold oneH L2.upd at h
  split at h
  · cases h; exact ⟨by assumption, rfl⟩
  · cases h
theorem script_in {K : PySem.W.Frag} {H : Hp} {a : Addr} {ns : List Int} {c : Ct} {E : XK} (hK : noLst K = true) (hS : SqL K H a (ns.map V.int)) (hc : c [.lst (ns.map D.int)] [] (fun r _ => r = .val (.bl true))) :
    specOf c [.ref a] H (fun v _ => v = .bl true) E := by
  have hr : Rd H a (.lst (ns.map V.int)) := by
    rcases hS with h | ⟨o, its, n, h1, h2, _⟩
    · exact h
    · exact (noLst_lookup hK h1 h2).elim
  refine ⟨{ F := oneH a (.lst (ns.map V.int)), cs := [], os := fun _ => 0 }, [.lst (ns.map D.int)], [], _, ⟨fun b u e => ?_, fun n c e => by simp at e, rfl, fun b m => by simp at m, .nil⟩, ⟨_, [], rfl, ⟨a, _, rfl, oneH_same, RepL.of_ints ns⟩, rfl⟩, hc, fun v H' p => ?_⟩
  · obtain ⟨rfl, rfl⟩ := oneH_of e
    exact hr
  · obtain ⟨r, w', σ', ss', o, rr, _, _, g⟩ := p
    have g : r = .val (.bl true) := g
    subst g
    exact rr
theorem bt_int : bootBuiltins "int" = some (.type "int") := by decide +kernel
theorem bt_bool : bootBuiltins "bool" = some (.type "bool") := by decide +kernel
theorem bt_str : bootBuiltins "str" = some (.type "str") := by decide +kernel
theorem bt_list : bootBuiltins "list" = some (.type "list") := by decide +kernel
theorem bt_dict : bootBuiltins "dict" = some (.type "dict") := by decide +kernel
theorem bt_tuple : bootBuiltins "tuple" = some (.type "tuple") := by decide +kernel
/-! ### the law's own call, at the place where no text is being shown -/
theorem lawG {P : Program} {w : World} {K : PySem.W.Frag} {mg mb : Str → Option Value} {k : Nat} {fa p : Addr} {fd : FuncData} {x : Str} {sp : Sp} {t : Shared} {us : List Value} {zs : List Int}
    (inK : K.In t.heap) (hmain : t.heap.Ns mainGlobals mg) (hbu : t.heap.Ns builtinsNs mb) (hboot : ∀ x : Str, x ≠ "__name__" → mb x = bootBuiltins x) (nolim : t.heap.NoLimit) (hgen : t.gens = #[])
    (hp : t.heap.get? p = some { cls := .type "list", data := .seq us.toArray }) (iv : IntsAre us zs) (short : zs.length ≤ sizeLine) (room : RoomG k callerA)
    (F : ∀ base : Heap, K.In base → base.Ns mainGlobals mg → FnG P w K mg base k fa fd [x] sp) (bind : ∀ (s : Shared) (u : Value), BindsTo s fd ⟨[u], []⟩ [(x, u)])
    (hsp : ∀ H : Hp, Only H → SqL K H p (zs.map V.int) → sp [.ref p] H (fun v _ => v = .bl true) fun _ _ _ => False) :
    codeAny (model P w) callerA (.call (.ref fa) ⟨[.ref p], []⟩) (fun r t' => r = .ok (.ret (.bool true)) ∧ OldK t.heap t'.heap ∧ t'.os = t.os ∧ AllBare t'.gens) t := by
  have vals := vals_ints iv
  have same := iv.length
  have main : ∀ H : Hp, Only H → SqL K H p (zs.map V.int) → HOk P w H t.heap → (∀ b, H b ≠ none → b = p) → (H p ≠ none → K.lookup p = none) →
      codeAny (model P w) callerA (.call (.ref fa) ⟨[.ref p], []⟩) (fun r t' => r = .ok (.ret (.bool true)) ∧ OldK t.heap t'.heap ∧ t'.os = t.os ∧ AllBare t'.gens) t := by
    intro H only seq ok sole free
    have at0 : ∀ {b : Addr} {o : Obj}, t.heap.get? b = some o → H b = none → (hidT t.heap H).get? b = some o := fun e n => hidT_get e n
    have isP : ∀ {b : Addr} {u : HO}, H b = some u → b = p := fun {b u} e => sole b (fun z => by rw [e] at z; cases z)
    have noDict : ∀ {b : Addr} {o : Obj} {es : Array DictEntry} {ep : Nat}, t.heap.get? b = some o → o.data = .dict es ep → H b = none := fun {b o es ep} e d => by
      cases q : H b with
      | none => rfl
      | some u =>
        obtain rfl := isP q
        rw [hp] at e; cases e
        exact absurd (show Data.seq us.toArray _ = Data.dict es ep from d) (fun z => by cases z)
    have ns0 : ∀ {b : Addr} {m : Str → Option Value}, t.heap.Ns b m → (hidT t.heap H).Ns b m := fun {b m} ⟨o, es, ep, e, d, r⟩ => ⟨o, es, ep, at0 e (noDict e d), d, r⟩
    have inK0 : K.In (hidT t.heap H) := fun b o e => at0 (inK b o e) (by
      cases q : H b with
      | none => rfl
      | some u =>
        obtain rfl := isP q
        have := free (fun z => by rw [q] at z; cases z)
        rw [this] at e; cases e)
    have mod0 : Mod K mg (hidT t.heap H) := ⟨inK0, ns0 hmain, ⟨mb, ns0 hbu, hboot⟩, let ⟨mc, h1, h2⟩ := nolim; ⟨mc, ns0 h1, h2⟩⟩
    have env0 : Env0 P w K mg (hidT t.heap H) callerA [] t H := ⟨rfl, mod0, fun b o e => of_hidT e, Nat.le_of_eq (hidT_size _ _), trivial, fun b hb => absurd (show b ∈ ([] : List Addr) from hb) (by simp), ok, .of_eq hgen⟩
    refine codeAny_mono ((F _ inK0 (ns0 hmain)).go callerA [] t H ⟨[.ref p], []⟩ [.ref p] [.ref p] _ _ room env0 (bind t (.ref p)) (.cons rfl .nil) (hsp H only seq)) fun r t' h => ?_
    match r, h with
    | .error e, h => exact h.elim
    | .ok (.ret u), h =>
      obtain ⟨v, H', os, bare, un, ok', rel, q⟩ := h
      obtain rfl : v = .bl true := q
      obtain rfl : u = Value.bool true := rel
      refine ⟨rfl, OldK.of_keep fun b o e => ?_, os, bare⟩
      cases q : H b with
      | none => exact un.keep b o e q (by intro z; exact absurd (show b ∈ ([] : List Addr) from z) (by simp)) (by simp)
      | some u =>
        rcases only b with z | ⟨ob, xs, z⟩
        · rw [q] at z; cases z
        · have later := un.frzs b ob _ z
          obtain ⟨e1, _⟩ := ok b _ z
          obtain ⟨e2, _⟩ := ok' b _ later
          rw [e] at e1; cases e1
          exact e2
  cases look : K.lookup p with
  | some o =>
    have e := inK p o look
    rw [hp] at e
    cases e
    refine main (fun _ => none) (fun _ => .inl rfl) (.inr ⟨_, us.toArray, _, look, rfl, rfl, rfl, by rw [List.size_toArray, same]; exact short, by simpa using vals⟩) (fun b u z => by cases (show (none : Option HO) = some u from z)) (fun b z => (z rfl).elim) fun z => (z rfl).elim
  | none =>
    refine main (fun b => if b = p then some (.frz { cls := .type "list", data := .seq us.toArray } (.lst (zs.map V.int))) else none) (fun b => ?_) (.inl (.inr ⟨{ cls := .type "list", data := .seq us.toArray }, if_pos rfl⟩)) (fun b u z => ?_) (fun b z => ?_) fun _ => look
    · by_cases q : b = p
      · exact .inr ⟨_, _, if_pos q⟩
      · exact .inl (if_neg q)
    · by_cases q : b = p
      · have z := (if_pos q).symm.trans z
        cases z
        subst q
        exact ⟨hp, by rw [List.length_map]; exact short, us, _, vals, hp⟩
      · cases (if_neg q).symm.trans z
    · by_cases q : b = p
      · exact q
      · exact absurd (if_neg q) z
theorem walkG {l : PySem.W.OpenLaw} {n k : Nat} {q : Program} {loose : List Str} {XP : (Str → Option Value) → Heap → Prop} {YP : World → Heap → Prop} {d : DefRec} {K : Params → PySem.W.Frag} {sp : World → Sp} {x : Str}
    (most : l.most = some n) (short : n ≤ sizeLine) (nodef : d.params.defaults = []) (room : RoomG k callerA)
    (hY : ∀ (w : World) (h : Heap), YP w h → (K w.params).In h)
    (F : ∀ (w : World) (mg : Str → Option Value) (fa : Addr) (h : Heap), (K w.params).In h → h.Ns mainGlobals mg → mg d.name = some (.ref fa) →
      ∃ fd : FuncData, (∀ (s : Shared) (u : Value), BindsTo s fd ⟨[u], []⟩ [(x, u)]) ∧ ∀ base : Heap, (K w.params).In base → base.Ns mainGlobals mg → FnG l.prog w (K w.params) mg base k fa fd [x] (sp w))
    (hsp : ∀ (w : World) (H : Hp) (p : Addr) (zs : List Int), zs.length ≤ n → (∀ z ∈ zs, Builtin.Int.intBits z ≤ 1048576) → Only H → SqL (K w.params) H p (zs.map V.int) → sp w [.ref p] H (fun v _ => v = .bl true) fun _ _ _ => False) :
    PySem.W.WalkO q loose XP YP l.row.toRowW d [] (fun f vs => PySem.call f vs) := by
  refine Att.attach_callB most nodef fun w t0 t1 mg mb fa o pm cd doc p us zs G Y ho hd hcd hmg hobj iv hlen hbits hg => ?_
  obtain ⟨fd, bind, hF⟩ := F w mg fa _ (hY w _ Y) G.T.g hmg
  exact lawG (hY w _ Y) G.T.g G.T.b G.T.builtins G.T.nolimit hg hobj iv (Nat.le_trans hlen short) room hF bind fun H hO hS => hsp w H p zs hlen hbits hO hS
end Vl
namespace Vl
open PySem PySem.Spec L2
open PyProof.Rows hiding St

/-! ### walks by invariants -/
theorem loop_inv' {g : WG} {f : WS} (I : Nat → SS → Prop) (E : En) : ∀ (ds : List D) (j : Nat) (s : SS),
    (∀ i d s, ds[i]? = some d → I (j + i) s → ∀ P : SS → Prop, (∀ s', I (j + i + 1) s' → P s') → g d s fun s1 => f { E with nx := P, ct := P, bk := E.nx } s1) → (∀ s, I (j + ds.length) s → E.nx s) → I j s → loopW g f ds E s
  | [], j, s, _, fin, h => fin s h
  | d :: ds, j, s, step, fin, h => by
    unfold loopW
    refine step 0 d s rfl h _ fun s' h' => ?_
    refine loop_inv' I E ds (j + 1) s' (fun i d s e hi P hP => ?_) (fun s hs => fin s (by rw [List.length_cons]; exact (by rw [Nat.add_right_comm] at hs; exact hs))) h'
    have e1 : j + 1 + i = j + (i + 1) := by omega
    rw [e1] at hi hP
    exact step (i + 1) d s e hi P hP
/-- for: an invariant by turns -/
theorem loop_inv {g : WG} {f : WS} {E : En} {ds : List D} {s : SS} (I : Nat → SS → Prop) (h : I 0 s)
    (step : ∀ i d s, ds[i]? = some d → I i s → ∀ P : SS → Prop, (∀ s', I (i + 1) s' → P s') → g d s fun s1 => f { E with nx := P, ct := P, bk := E.nx } s1) (fin : ∀ s, I ds.length s → E.nx s) : loopW g f ds E s :=
  loop_inv' I E ds 0 s (fun i d s e hi P hP => step i d s e (by rwa [Nat.zero_add] at hi) P (by rwa [Nat.zero_add] at hP)) (fun s hs => fin s (by rwa [Nat.zero_add] at hs)) h
theorem comp_inv' {g : WG} {gt : WT} {fe : WV} {vs : List Nat} {K : List D → SS → Prop} (I : Nat → List D → SS → Prop) : ∀ (ds : List D) (j : Nat) (acc : List D) (s : SS),
    (∀ i d acc s, ds[i]? = some d → I (j + i) acc s → ∀ P : Option D → SS → Prop, (∀ s', I (j + i + 1) acc s' → P none s') → (∀ y s', I (j + i + 1) (acc ++ [y]) s' → P (some y) s') → g d s fun s1 => gt s1 fun b s2 => if b = true then fe s2 fun y s3 => P (some y) (wipeS vs s3) else P none (wipeS vs s2)) →
    acc.length + ds.length ≤ sizeLine → (∀ acc s, I (j + ds.length) acc s → K acc s) → I j acc s → compW g gt fe vs ds acc s K
  | [], j, acc, s, _, _, fin, h => fin acc s h
  | d :: ds, j, acc, s, step, hl, fin, h => by
    unfold compW
    rw [List.length_cons] at hl
    have nxt : ∀ acc' s', acc'.length + ds.length ≤ sizeLine → I (j + 1) acc' s' → compW g gt fe vs ds acc' s' K := fun acc' s' hl' h' => by
      refine comp_inv' I ds (j + 1) acc' s' (fun i d acc s e hi P h0 h1 => ?_) hl' (fun acc s hs => fin acc s (by rw [List.length_cons]; exact (by rw [Nat.add_right_comm] at hs; exact hs))) h'
      have e1 : j + 1 + i = j + (i + 1) := by omega
      rw [e1] at hi h0 h1
      exact step (i + 1) d acc s e hi P h0 h1
    exact step 0 d acc s rfl h (fun o s' => match o with | some y => acc.length < sizeLine ∧ compW g gt fe vs ds (acc ++ [y]) s' K | none => compW g gt fe vs ds acc s' K) (fun s' h' => nxt acc s' (by omega) h')
      fun y s' h' => ⟨by omega, nxt _ s' (by rw [List.length_append, List.length_singleton]; omega) h'⟩
/-- [..]: an invariant by turns -/
theorem comp_inv {g : WG} {gt : WT} {fe : WV} {vs : List Nat} {K : List D → SS → Prop} {ds : List D} {s : SS} (I : Nat → List D → SS → Prop) (h : I 0 [] s) (hl : ds.length ≤ sizeLine)
    (step : ∀ i d acc s, ds[i]? = some d → I i acc s → ∀ P : Option D → SS → Prop, (∀ s', I (i + 1) acc s' → P none s') → (∀ y s', I (i + 1) (acc ++ [y]) s' → P (some y) s') → g d s fun s1 => gt s1 fun b s2 => if b = true then fe s2 fun y s3 => P (some y) (wipeS vs s3) else P none (wipeS vs s2))
    (fin : ∀ acc s, I ds.length acc s → K acc s) : compW g gt fe vs ds [] s K :=
  comp_inv' I ds 0 [] s (fun i d acc s e hi P h0 h1 => step i d acc s e (by rwa [Nat.zero_add] at hi) P (by rwa [Nat.zero_add] at h0) (by rwa [Nat.zero_add] at h1)) (by rw [List.length_nil, Nat.zero_add]; exact hl) (fun acc s hs => fin acc s (by rwa [Nat.zero_add] at hs)) h
/-- .. each item by itself, nothing else changes -/
theorem comp_map {g : WG} {gt : WT} {fe : WV} {vs : List Nat} {K : List D → SS → Prop} {ds : List D} {s : SS} (F : D → Option D) (hl : ds.length ≤ sizeLine)
    (step : ∀ d ∈ ds, ∀ P : Option D → SS → Prop, P (F d) s → g d s fun s1 => gt s1 fun b s2 => if b = true then fe s2 fun y s3 => P (some y) (wipeS vs s3) else P none (wipeS vs s2))
    (fin : K (ds.filterMap F) s) : compW g gt fe vs ds [] s K := by
  refine comp_inv (fun i acc s' => s' = s ∧ acc = (ds.take i).filterMap F) ⟨rfl, rfl⟩ hl (fun i d acc s' e hi P h0 h1 => ?_) (fun acc s' h => ?_)
  · obtain ⟨rfl, rfl⟩ := hi
    have ht : ds.take (i + 1) = ds.take i ++ [d] := by rw [List.take_add_one, e]; rfl
    refine step d (List.mem_of_getElem? e) P ?_
    cases q : F d with
    | none => exact h0 s' ⟨rfl, by rw [ht, List.filterMap_append, List.filterMap_cons_none q, List.filterMap_nil, List.append_nil]⟩
    | some y => exact h1 y s' ⟨rfl, by rw [ht, List.filterMap_append, List.filterMap_cons_some q, List.filterMap_nil]⟩
  · obtain ⟨rfl, rfl⟩ := h
    rw [List.take_length]; exact fin
theorem upI_at {lo : Int} {n i : Nat} {d : D} (h : (upI lo n)[i]? = some d) : i < n ∧ d = .int (lo + i) := by
  unfold upI at h
  rw [List.getElem?_map] at h
  by_cases q : i < n
  · rw [List.getElem?_range q] at h; exact ⟨q, (Option.some.inj h).symm⟩
  · rw [List.getElem?_eq_none (by simpa using q)] at h; cases h
theorem upI_mem {lo : Int} {n : Nat} {d : D} (h : d ∈ upI lo n) : ∃ i : Nat, i < n ∧ d = .int (lo + i) := by
  obtain ⟨i, hi⟩ := List.mem_iff_getElem?.mp h
  exact ⟨i, upI_at hi⟩
/-- numbers of few bits -/
theorem bits_le {i : Int} {n : Nat} (h : i.natAbs < 2 ^ n) : Builtin.Int.intBits i ≤ n := by
  unfold Builtin.Int.intBits
  split
  · exact Nat.zero_le _
  · rename_i z
    have z' : i.natAbs ≠ 0 := by
      intro e; apply z; revert e
      first | (intro e; simpa using e) | omega
    have := (Nat.log2_lt z').mpr h
    omega
theorem mulok {i j : Int} (h : i.natAbs < 2 ^ 64 ∨ j.natAbs < 2 ^ 64) : IntMulOk i j := by
  rcases h with h | h
  · exact IntMulOk.of_left (bits_le h)
  · exact IntMulOk.of_right (bits_le h)
theorem tT_NoneType : ("NoneType" ∈ tyT) = True := eq_true (by decide)
theorem tT_bool : ("bool" ∈ tyT) = True := eq_true (by decide)
theorem tT_int : ("int" ∈ tyT) = True := eq_true (by decide)
theorem tT_str : ("str" ∈ tyT) = True := eq_true (by decide)
theorem tT_list : ("list" ∈ tyT) = True := eq_true (by decide)
theorem tT_tuple : ("tuple" ∈ tyT) = True := eq_true (by decide)
theorem tT_dict : ("dict" ∈ tyT) = True := eq_true (by decide)
theorem tN_int : ("int" ∈ tyN) = True := eq_true (by decide)
theorem tN_bool : ("bool" ∈ tyN) = True := eq_true (by decide)
theorem tN_str : ("str" ∈ tyN) = True := eq_true (by decide)
theorem tN_list : ("list" ∈ tyN) = True := eq_true (by decide)
theorem tN_tuple : ("tuple" ∈ tyN) = True := eq_true (by decide)
theorem tN_dict : ("dict" ∈ tyN) = True := eq_true (by decide)
theorem iT_NoneType_int : isT "NoneType" "int" = false := by decide +kernel
theorem iT_NoneType_bool : isT "NoneType" "bool" = false := by decide +kernel
theorem iT_NoneType_str : isT "NoneType" "str" = false := by decide +kernel
theorem iT_NoneType_list : isT "NoneType" "list" = false := by decide +kernel
theorem iT_NoneType_tuple : isT "NoneType" "tuple" = false := by decide +kernel
theorem iT_NoneType_dict : isT "NoneType" "dict" = false := by decide +kernel
theorem iT_bool_int : isT "bool" "int" = true := by decide +kernel
theorem iT_bool_bool : isT "bool" "bool" = true := by decide +kernel
theorem iT_bool_str : isT "bool" "str" = false := by decide +kernel
theorem iT_bool_list : isT "bool" "list" = false := by decide +kernel
theorem iT_bool_tuple : isT "bool" "tuple" = false := by decide +kernel
theorem iT_bool_dict : isT "bool" "dict" = false := by decide +kernel
theorem iT_int_int : isT "int" "int" = true := by decide +kernel
theorem iT_int_bool : isT "int" "bool" = false := by decide +kernel
theorem iT_int_str : isT "int" "str" = false := by decide +kernel
theorem iT_int_list : isT "int" "list" = false := by decide +kernel
theorem iT_int_tuple : isT "int" "tuple" = false := by decide +kernel
theorem iT_int_dict : isT "int" "dict" = false := by decide +kernel
theorem iT_str_int : isT "str" "int" = false := by decide +kernel
theorem iT_str_bool : isT "str" "bool" = false := by decide +kernel
theorem iT_str_str : isT "str" "str" = true := by decide +kernel
theorem iT_str_list : isT "str" "list" = false := by decide +kernel
theorem iT_str_tuple : isT "str" "tuple" = false := by decide +kernel
theorem iT_str_dict : isT "str" "dict" = false := by decide +kernel
theorem iT_list_int : isT "list" "int" = false := by decide +kernel
theorem iT_list_bool : isT "list" "bool" = false := by decide +kernel
theorem iT_list_str : isT "list" "str" = false := by decide +kernel
theorem iT_list_list : isT "list" "list" = true := by decide +kernel
theorem iT_list_tuple : isT "list" "tuple" = false := by decide +kernel
theorem iT_list_dict : isT "list" "dict" = false := by decide +kernel
theorem iT_tuple_int : isT "tuple" "int" = false := by decide +kernel
theorem iT_tuple_bool : isT "tuple" "bool" = false := by decide +kernel
theorem iT_tuple_str : isT "tuple" "str" = false := by decide +kernel
theorem iT_tuple_list : isT "tuple" "list" = false := by decide +kernel
theorem iT_tuple_tuple : isT "tuple" "tuple" = true := by decide +kernel
theorem iT_tuple_dict : isT "tuple" "dict" = false := by decide +kernel
theorem iT_dict_int : isT "dict" "int" = false := by decide +kernel
theorem iT_dict_bool : isT "dict" "bool" = false := by decide +kernel
theorem iT_dict_str : isT "dict" "str" = false := by decide +kernel
theorem iT_dict_list : isT "dict" "list" = false := by decide +kernel
theorem iT_dict_tuple : isT "dict" "tuple" = false := by decide +kernel
theorem iT_dict_dict : isT "dict" "dict" = true := by decide +kernel
theorem small62_nat {n : Nat} (h : n < 2 ^ 62) : small62 (n : Int) := ⟨by omega, by omega⟩
theorem small62_of {i : Int} (h1 : -(2 ^ 62) ≤ i) (h2 : i < 2 ^ 62) : small62 i := ⟨h1, h2⟩
theorem szl : sizeLine = 16777216 := by decide
theorem ixN_at {n j : Nat} (hj : j < n) : ixN n (j : Int) = some j := by
  unfold ixN
  rw [if_pos (by omega), if_pos (by omega)]
  exact congrArg some (by omega)
theorem atI_nat {α : Type} {xs : List α} {i : Nat} {d : α} (h : xs[i]? = some d) : L2.atI xs (i : Int) = some d := by
  have hl := (List.getElem?_eq_some_iff.mp h).1
  unfold L2.atI
  rw [ixN_at hl]
  exact h
theorem atI_neg {α : Type} {xs : List α} {i j : Nat} {d : α} (hj : j < xs.length) (e : i + j + 1 = xs.length) (h : xs[j]? = some d) : L2.atI xs (-((i : Int) + 1)) = some d := by
  unfold L2.atI L2.ixN
  rw [if_neg (by omega), if_pos (by omega)]
  have : (-((i : Int) + 1) + (xs.length : Int)).toNat = j := by omega
  show xs[(-((i : Int) + 1) + (xs.length : Int)).toNat]? = some d
  rw [this]; exact h
theorem atI_last {α : Type} {xs : List α} {d : α} : L2.atI (xs ++ [d]) (-1) = some d :=
  atI_neg (i := 0) (j := xs.length) (by simp) (by simp) (by simp)
theorem atI_last2 {α : Type} {xs : List α} {d e : α} : L2.atI (xs ++ [d] ++ [e]) (-2) = some d :=
  atI_neg (i := 1) (j := xs.length) (by simp) (by simp; omega) (by simp)
theorem cut_tail {α : Type} {xs : List α} : cutL xs (some 1) none = xs.tail := by
  have h : HT.sIx xs.length 0 (some 1) = min 1 xs.length := HT.sIx_nat _ _ 1
  unfold cutL
  rw [h, HT.sIx_none]
  cases xs with
  | nil => rfl
  | cons a r =>
    rw [List.length_cons, Nat.min_eq_left (by omega)]
    show List.take (r.length + 1 - 1) r = r
    rw [Nat.add_sub_cancel, List.take_length]
/-- a range's part -/
theorem get_range_map {α : Type} {n i : Nat} (f : Nat → α) (h : i < n) : ((List.range n).map f)[i]? = some (f i) := by
  rw [List.getElem?_map, List.getElem?_range h]; rfl
theorem atI_0 {α : Type} {a : α} {r : List α} : L2.atI (a :: r) 0 = some a := atI_nat (i := 0) rfl
theorem ixN_0 {α : Type} {a : α} {r : List α} : L2.ixN (a :: r).length 0 = some 0 := ixN_at (j := 0) (by simp)
theorem atI_1 {α : Type} {a b : α} {r : List α} : L2.atI (a :: b :: r) 1 = some b := atI_nat (i := 1) rfl
theorem ixN_1 {α : Type} {a b : α} {r : List α} : L2.ixN (a :: b :: r).length 1 = some 1 := ixN_at (j := 1) (by simp)
theorem atI_2 {α : Type} {a b c : α} {r : List α} : L2.atI (a :: b :: c :: r) 2 = some c := atI_nat (i := 2) rfl
theorem ixN_2 {α : Type} {a b c : α} {r : List α} : L2.ixN (a :: b :: c :: r).length 2 = some 2 := ixN_at (j := 2) (by simp)
theorem atI_3 {α : Type} {a b c d : α} {r : List α} : L2.atI (a :: b :: c :: d :: r) 3 = some d := atI_nat (i := 3) rfl
theorem ixN_3 {α : Type} {a b c d : α} {r : List α} : L2.ixN (a :: b :: c :: d :: r).length 3 = some 3 := ixN_at (j := 3) (by simp)
theorem cut_map {α β : Type} (f : α → β) (xs : List α) (lo hi : Option Int) : cutL (xs.map f) lo hi = (cutL xs lo hi).map f := by
  unfold cutL
  rw [List.length_map, List.map_take, List.map_drop]
theorem divok {i j : Int} (h : 0 < j) (h2 : j.natAbs < 2 ^ 64) : CDivW i j := ⟨h, Nat.lt_trans ((Nat.log2_lt (by omega)).mpr h2) (by decide)⟩
theorem cmp_int {i j : Int} : cmpOk (.int i) (.int j) = True := eq_true (.inl rfl)
theorem cmp_str {i j : Str} : cmpOk (.str i) (.str j) = True := eq_true (.inl rfl)
theorem cmp_bl {i j : Bool} : cmpOk (.bl i) (.bl j) = True := eq_true (.inl rfl)
theorem eqD_int {i j : Int} : eqD (.int i) (.int j) = decide (i = j) := by
  rw [Bool.eq_iff_iff]; simp [eqD, toPy, PyData.eqv]
theorem eqD_str {i j : Str} : eqD (.str i) (.str j) = decide (i = j) := by
  rw [Bool.eq_iff_iff]; simp [eqD, toPy, PyData.eqv]
theorem eqD_bl {i j : Bool} : eqD (.bl i) (.bl j) = decide (i = j) := by
  rw [Bool.eq_iff_iff]; simp [eqD, toPy, PyData.eqv]
/-! ### one statement at a time -/
theorem seq_i {f g : WS} {E : En} {ss : SS} (h : ∀ N : SS → Prop, (∀ s, g E s → N s) → f { E with nx := N } ss) : sSeq f g E ss := h _ fun _ => id
theorem for_i {fi : WI} {g : WG} {f : WS} {E : En} {ss : SS} (h : ∀ N : List D → SS → Prop, (∀ ds s, loopW g f ds E s → N ds s) → fi ss N) : sFor fi g f E ss := h _ fun _ _ => id
theorem set_self {α : Type} {l : List α} {n : Nat} {x : α} (h : l[n]? = some x) : l.set n x = l := by
  apply List.ext_getElem?
  intro i
  rw [List.getElem?_set]
  split
  · rename_i e; subst e
    rw [if_pos (List.getElem?_eq_some_iff.mp h).1]; exact h.symm
  · rfl
end Vl
namespace Vl
open PySem PySem.Spec L2
open PyProof.Rows hiding St

/-! ### readings step by step: a lemma a form of the operand, so that what is not known stays as it is -/
section
variable {ss s : SS} {r : List SV} {S : List C} {i j n : Nat} {d e : D} {ds es xs ys : List D} {kvs : List (Key × D)} {c : C} {x y : Str} {a b : Int} {p q : Bool}
variable {G : Re → SS → Prop} {K : SS → Prop} {P : Re → Prop} {k : D → Prop} {kd : D → SS → Prop} {kr : Re → List C → Prop} {kc : C → D → Prop} {kl : List D → Prop} {kls : List D → SS → Prop} {ki : Int → Prop} {kb : Bool → Prop}
def fvS (i : Nat) (x : Option SV) (ss : SS) (G : Re → SS → Prop) : Prop := match x with
  | some (.val d) => G (.val d) ss
  | some (.own _) => G (.slo i) ss
  | _ => False
theorem x_fVar : fVar i ss G = fvS i ss.r[i]? ss G := propext Iff.rfl
theorem x_fv1 : fvS i (some (.val d)) ss G = G (.val d) ss := propext Iff.rfl
theorem x_fv2 : fvS i (some (.own c)) ss G = G (.slo i) ss := propext Iff.rfl
theorem x_tl : C.toD (.lst xs) = .lst xs := rfl
theorem x_td : C.toD (.dic kvs) = .dic kvs := rfl
def fzS (i : Nat) (x : Option SV) (ss : SS) (k : D → SS → Prop) : Prop := match x with
  | some (.own c) => k c.toD { ss with r := ss.r.set i (.val c.toD) }
  | some (.val d) => k d ss
  | _ => False
theorem x_fz1 : fz (.val d) ss kd = kd d ss := propext Iff.rfl
theorem x_fz2 : fz (.new c) ss kd = kd c.toD ss := propext Iff.rfl
theorem x_fz3 : fz (.slo i) ss kd = fzS i ss.r[i]? ss kd := propext Iff.rfl
theorem x_fzS1 : fzS i (some (.own c)) ss kd = kd c.toD { ss with r := ss.r.set i (.val c.toD) } := propext Iff.rfl
theorem x_fzS2 : fzS i (some (.val d)) ss kd = kd d ss := propext Iff.rfl
def vwL (x : Option C) (k : D → Prop) : Prop := match x with
  | some c => k c.toD
  | none => False
def vwS (x : Option SV) (ss : SS) (k : D → Prop) : Prop := match x with
  | some (.own c) => k c.toD
  | some (.val d) => vw (.val d) ss k
  | _ => False
theorem x_vw_non : vw (.val .non) ss k = k .non := propext Iff.rfl
theorem x_vw_bl : vw (.val (.bl p)) ss k = k (.bl p) := propext Iff.rfl
theorem x_vw_int : vw (.val (.int a)) ss k = k (.int a) := propext Iff.rfl
theorem x_vw_str : vw (.val (.str x)) ss k = k (.str x) := propext Iff.rfl
theorem x_vw_lst : vw (.val (.lst xs)) ss k = k (.lst xs) := propext Iff.rfl
theorem x_vw_tup : vw (.val (.tup xs)) ss k = k (.tup xs) := propext Iff.rfl
theorem x_vw_dic : vw (.val (.dic kvs)) ss k = k (.dic kvs) := propext Iff.rfl
theorem x_vw_raw {v : V} : vw (.val (.raw v)) ss k = k (.raw v) := propext Iff.rfl
theorem x_vw_loc : vw (.val (.loc n)) ss k = vwL ss.S[n]? k := by
  show (match ss.S[n]? with | some c => k c.toD | none => False) = _
  unfold vwL
  cases ss.S[n]? <;> rfl
theorem x_vwL : vwL (some c) k = k c.toD := propext Iff.rfl
theorem x_vw_new : vw (.new c) ss k = k c.toD := propext Iff.rfl
theorem x_vw_slo : vw (.slo i) ss k = vwS ss.r[i]? ss k := by
  show (match ss.r[i]? with | some (.own c) => k c.toD | some (.val (.loc n)) => (match ss.S[n]? with | some c => k c.toD | none => False) | some (.val d) => k d | _ => False) = _
  generalize ss.r[i]? = o
  unfold vwS
  match o with
  | none => rfl
  | some .no => rfl
  | some (.own c) => rfl
  | some (.val .non) => rfl
  | some (.val (.bl _)) => rfl
  | some (.val (.int _)) => rfl
  | some (.val (.str _)) => rfl
  | some (.val (.lst _)) => rfl
  | some (.val (.tup _)) => rfl
  | some (.val (.dic _)) => rfl
  | some (.val (.loc _)) => rfl
  | some (.val (.raw _)) => rfl
theorem x_vwS1 : vwS (some (.own c)) ss k = k c.toD := propext Iff.rfl
theorem x_vwS2 : vwS (some (.val d)) ss k = vw (.val d) ss k := propext Iff.rfl
theorem x_isI : isI (.val (.int a)) ki = ki a := propext Iff.rfl
theorem x_isB : isB (.val (.bl p)) kb = kb p := propext Iff.rfl
theorem x_add_i : kAdd (.int a) (.int b) P = P (.val (.int (a + b))) := propext Iff.rfl
theorem x_add_s : kAdd (.str x) (.str y) P = (x.length + y.length ≤ sizeLine ∧ P (.val (.str (x ++ y)))) := propext Iff.rfl
theorem x_add_l : kAdd (.lst xs) (.lst ys) P = (xs.length + ys.length ≤ sizeLine ∧ P (.new (.lst (xs ++ ys)))) := propext Iff.rfl
theorem x_add_t : kAdd (.tup xs) (.tup ys) P = (xs.length + ys.length ≤ sizeLine ∧ P (.val (.tup (xs ++ ys)))) := propext Iff.rfl
theorem x_mul_i : kMul (.int a) (.int b) P = (IntMulOk a b ∧ P (.val (.int (a * b)))) := propext Iff.rfl
theorem x_mul_s : kMul (.str x) (.int b) P = (MulOk x b ∧ P (.val (.str (Txt.mul x b)))) := propext Iff.rfl
theorem x_mul_l : kMul (.lst xs) (.int b) P = ((-(2 ^ 63) ≤ b ∧ b < 2 ^ 63 ∧ xs.length * b.toNat ≤ sizeLine) ∧ P (.new (.lst (List.replicate b.toNat xs).flatten))) := propext Iff.rfl
theorem x_sub : kSub (.int a) (.int b) P = P (.val (.int (a - b))) := by show (True ∧ _) = _; rw [true_and]
theorem x_mod : kMod (.int a) (.int b) P = (0 < b ∧ P (.val (.int (a % b)))) := propext Iff.rfl
theorem x_div : kDiv (.int a) (.int b) P = (CDivW a b ∧ P (.val (.int (a / b)))) := propext Iff.rfl
theorem x_pow : kPow (.int a) (.int b) P = ((0 ≤ b ∧ (Builtin.Int.intBits a : Int) * b ≤ 2 ^ 27) ∧ P (.val (.int (a ^ b.toNat)))) := propext Iff.rfl
theorem x_lt_i : kLt (.int a) (.int b) P = P (.val (.bl (decide (a < b)))) := propext Iff.rfl
theorem x_gt_i : kGt (.int a) (.int b) P = P (.val (.bl (decide (b < a)))) := propext Iff.rfl
theorem x_le_i : kLe (.int a) (.int b) P = P (.val (.bl (decide (a ≤ b)))) := propext Iff.rfl
theorem x_ge_i : kGe (.int a) (.int b) P = P (.val (.bl (decide (b ≤ a)))) := propext Iff.rfl
theorem x_lt_s : kLt (.str x) (.str y) P = P (.val (.bl (sLt x y))) := propext Iff.rfl
theorem x_gt_s : kGt (.str x) (.str y) P = P (.val (.bl (sLt y x))) := propext Iff.rfl
theorem x_le_s : kLe (.str x) (.str y) P = P (.val (.bl (!sLt y x))) := propext Iff.rfl
theorem x_ge_s : kGe (.str x) (.str y) P = P (.val (.bl (!sLt x y))) := propext Iff.rfl
theorem x_in_s {neg : Bool} : kIn neg (.str x) (.str y) P = P (.val (.bl (neg ^^ inS x y))) := by
  show (∃ z, D.str x = .str z ∧ P (.val (.bl (neg ^^ inS z y)))) = _
  simp
theorem x_in_ds {neg : Bool} : kIn neg (.str x) (.dic kvs) P = P (.val (.bl (neg ^^ (valD kvs (.inr x)).isSome))) := by
  show (∃ k, keyOf (.str x) = some k ∧ P (.val (.bl (neg ^^ (valD kvs k).isSome)))) = _
  simp [keyOf]
theorem x_in_di {neg : Bool} : kIn neg (.int a) (.dic kvs) P = P (.val (.bl (neg ^^ (valD kvs (.inl a)).isSome))) := by
  show (∃ k, keyOf (.int a) = some k ∧ P (.val (.bl (neg ^^ (valD kvs k).isSome)))) = _
  simp [keyOf]
theorem x_in_l {neg : Bool} : kIn neg d (.lst ys) P = (((flatD d = true ∧ ys.all flatD = true) ∨ (shp d = true ∧ shp (.lst ys) = true)) ∧ P (.val (.bl (neg ^^ inL d ys)))) := propext Iff.rfl
theorem x_in_t {neg : Bool} : kIn neg d (.tup ys) P = ((flatD d = true ∧ ys.all flatD = true) ∧ P (.val (.bl (neg ^^ inL d ys)))) := propext Iff.rfl
theorem x_ix_l : kIx (.lst xs) (.int a) P = ∃ d, L2.atI xs a = some d ∧ P (.val d) := by
  show (∃ i d, D.int a = .int i ∧ L2.atI xs i = some d ∧ P (.val d)) = _
  simp
theorem x_ix_t : kIx (.tup xs) (.int a) P = ∃ d, L2.atI xs a = some d ∧ P (.val d) := by
  show (∃ i d, D.int a = .int i ∧ L2.atI xs i = some d ∧ P (.val d)) = _
  simp
theorem x_ix_s : kIx (.str x) (.int a) P = (x.length ≤ sizeLine ∧ ∃ c, L2.atI x.cps.toList a = some c ∧ P (.val (.str ⟨#[c]⟩))) := by
  show (x.length ≤ sizeLine ∧ ∃ i c, D.int a = .int i ∧ L2.atI x.cps.toList i = some c ∧ P (.val (.str ⟨#[c]⟩))) = _
  simp
theorem x_ix_ds : kIx (.dic kvs) (.str x) P = ∃ d, valD kvs (.inr x) = some d ∧ P (.val d) := by
  show (∃ k d, keyOf (.str x) = some k ∧ valD kvs k = some d ∧ P (.val d)) = _
  simp [keyOf]
theorem x_ix_di : kIx (.dic kvs) (.int a) P = ∃ d, valD kvs (.inl a) = some d ∧ P (.val d) := by
  show (∃ k d, keyOf (.int a) = some k ∧ valD kvs k = some d ∧ P (.val d)) = _
  simp [keyOf]
theorem x_is {neg : Bool} : kIs neg d .non P = (noRaw d = true ∧ P (.val (.bl (neg ^^ isNon d)))) := by
  show (D.non = .non ∧ _) = _
  simp
variable {lo hi : Option Int}
theorem x_sl_l : kSl (.lst xs) lo hi P = P (.new (.lst (cutL xs lo hi))) := propext Iff.rfl
theorem x_sl_s : kSl (.str x) lo hi P = (x.length ≤ sizeLine ∧ P (.val (.str (cutS x lo hi)))) := propext Iff.rfl
theorem x_sl_t : kSl (.tup xs) lo hi P = P (.val (.tup (cutL xs lo hi))) := propext Iff.rfl
theorem x_len_l : kLen [.lst xs] P = P (.val (.int xs.length)) := propext Iff.rfl
theorem x_len_t : kLen [.tup xs] P = P (.val (.int xs.length)) := propext Iff.rfl
theorem x_len_s : kLen [.str x] P = (x.length ≤ sizeLine ∧ P (.val (.int x.length))) := propext Iff.rfl
theorem x_len_d : kLen [.dic kvs] P = P (.val (.int kvs.length)) := propext Iff.rfl
theorem x_list_l : kList [.lst xs] P = P (.new (.lst xs)) := propext Iff.rfl
theorem x_list_t : kList [.tup xs] P = P (.new (.lst xs)) := propext Iff.rfl
theorem x_sum : kSum [.lst xs] P = ∃ ns, intsD xs = some ns ∧ P (.val (.int ns.sum)) := propext Iff.rfl
theorem x_max : kMx [.int a, .int b] P = P (.val (.int (if b > a then b else a))) := propext Iff.rfl
theorem x_min : kMn [.int a, .int b] P = P (.val (.int (if b < a then b else a))) := propext Iff.rfl
theorem x_isi {t : String} : kIsi [d, .raw (.ty t)] P = (tyD d ∈ tyT ∧ t ∈ tyN ∧ P (.val (.bl (isT (tyD d) t)))) := propext Iff.rfl
theorem x_rg1 : kRg1 [.int a] kl = (small62 a ∧ kl (upI 0 a.toNat)) := propext Iff.rfl
theorem x_rg2 : kRg2 [.int a, .int b] kl = ((small62 a ∧ small62 b) ∧ kl (upI a (b - a).toNat)) := propext Iff.rfl
theorem x_rg3 {e : Int} : kRg3 [.int a, .int b, .int e] kl = ∃ n, RgC a b e n ∧ kl (stepI a e n) := propext Iff.rfl
theorem x_wk_l : walkD (.lst xs) kl = kl xs := propext Iff.rfl
theorem x_wk_t : walkD (.tup xs) kl = kl xs := propext Iff.rfl
theorem x_wk_s : walkD (.str x) kl = kl (signs x) := propext Iff.rfl
theorem x_wk_d : walkD (.dic kvs) kl = kl (kvs.map fun kv => kD kv.1) := propext Iff.rfl
def enS (ds : List D) (s : SS) (G : List D → SS → Prop) : Prop := match ds with
  | [.lst xs] => G (numD 0 xs) s
  | _ => False
theorem x_enum {fa : WA} : fEnum fa ss kls = fa ss fun ds s => enS ds s kls := propext Iff.rfl
theorem x_enS : enS [.lst xs] ss kls = kls (numD 0 xs) ss := propext Iff.rfl
def ziS (ds : List D) (s : SS) (G : List D → SS → Prop) : Prop := match ds with
  | [.lst xs, .lst ys] => G (zipD xs ys) s
  | _ => False
theorem x_zip {fa : WA} : fZip fa ss kls = fa ss fun ds s => ziS ds s kls := propext Iff.rfl
theorem x_ziS : ziS [.lst xs, .lst ys] ss kls = kls (zipD xs ys) ss := propext Iff.rfl
def itS (d : D) (s : SS) (G : List D → SS → Prop) : Prop := match d with
  | .dic kvs => G (kvs.map fun kv => .tup [kD kv.1, kv.2]) s
  | _ => False
theorem x_items {fe : WE} : fItems fe ss kls = fe ss fun r s => fz r s fun d s => itS d s kls := propext Iff.rfl
theorem x_itS : itS (.dic kvs) ss kls = kls (kvs.map fun kv => .tup [kD kv.1, kv.2]) ss := propext Iff.rfl
def vaS (d : D) (s : SS) (G : List D → SS → Prop) : Prop := match d with
  | .dic kvs => G (kvs.map (·.2)) s
  | _ => False
theorem x_values {fe : WE} : fValues fe ss kls = fe ss fun r s => fz r s fun d s => vaS d s kls := propext Iff.rfl
theorem x_vaS : vaS (.dic kvs) ss kls = kls (kvs.map (·.2)) ss := propext Iff.rfl
def rtS (x : Option SV) (ss : SS) (k : Re → List C → Prop) : Prop := match x with
  | some (.own c) => k (.new c) ss.S
  | some (.val d) => k (.val d) ss.S
  | _ => False
theorem x_rt1 : rtn (.val d) ss kr = kr (.val d) ss.S := propext Iff.rfl
theorem x_rt2 : rtn (.new c) ss kr = kr (.new c) ss.S := propext Iff.rfl
theorem x_rt3 : rtn (.slo i) ss kr = rtS ss.r[i]? ss kr := by
  show (match ss.r[i]? with | some (.own c) => kr (.new c) ss.S | some (.val d) => kr (.val d) ss.S | _ => False) = _
  rfl
theorem x_rtS1 : rtS (some (.own c)) ss kr = kr (.new c) ss.S := propext Iff.rfl
theorem x_rtS2 : rtS (some (.val d)) ss kr = kr (.val d) ss.S := propext Iff.rfl
theorem x_set1 : setS i (.val d) ss K = K { ss with r := ss.r.set i (.val d) } := propext Iff.rfl
theorem x_set2 : setS i (.new c) ss K = K { ss with r := ss.r.set i (.own c) } := propext Iff.rfl
theorem x_set3 : setS i (.slo j) ss K = fz (.slo j) ss fun d s => K { s with r := s.r.set i (.val d) } := propext Iff.rfl
theorem x_cell1 : toCell (.new c) ss kd = kd (.loc ss.S.length) { ss with S := ss.S ++ [c] } := propext Iff.rfl
theorem x_cell2 : toCell (.val d) ss kd = kd d ss := propext Iff.rfl
theorem x_cell3 : toCell (.slo i) ss kd = fz (.slo i) ss kd := propext Iff.rfl
variable {f : C → (C → D → Prop) → Prop}
def onL (n : Nat) (x : Option C) (s : SS) (f : C → (C → D → Prop) → Prop) (k : D → SS → Prop) : Prop := match x with
  | some c => f c fun c' d => k d { s with S := s.S.set n c' }
  | none => False
def onS (j : Nat) (x : Option SV) (s : SS) (f : C → (C → D → Prop) → Prop) (k : D → SS → Prop) : Prop := match x with
  | some (.own c) => f c fun c' d => k d { s with r := s.r.set j (.own c') }
  | some (.val (.loc n)) => onL n s.S[n]? s f k
  | _ => False
theorem x_on1 : onC (.slo j) ss f kd = onS j ss.r[j]? ss f kd := by
  unfold onC onS onL
  rfl
theorem x_on2 : onC (.val (.loc n)) ss f kd = onL n ss.S[n]? ss f kd := propext Iff.rfl
theorem x_onS1 : onS j (some (.own c)) ss f kd = f c fun c' d => kd d { ss with r := ss.r.set j (.own c') } := propext Iff.rfl
theorem x_onS2 : onS j (some (.val (.loc n))) ss f kd = onL n ss.S[n]? ss f kd := propext Iff.rfl
theorem x_onL : onL n (some c) ss f kd = f c fun c' d => kd d { ss with S := ss.S.set n c' } := propext Iff.rfl
theorem x_put_l : putC (.lst xs) (.int a) d kc = ∃ j, L2.ixN xs.length a = some j ∧ kc (.lst (xs.set j d)) .non := by
  show (∃ i j, D.int a = .int i ∧ L2.ixN xs.length i = some j ∧ kc (.lst (xs.set j d)) .non) = _
  simp
theorem x_put_ds : putC (.dic kvs) (.str x) d kc = (kvs.length < sizeLine ∧ kc (.dic (putD kvs (.inr x) d)) .non) := by
  show (∃ key, keyOf (.str x) = some key ∧ kvs.length < sizeLine ∧ kc (.dic (putD kvs key d)) .non) = _
  simp [keyOf]
theorem x_put_di : putC (.dic kvs) (.int a) d kc = (kvs.length < sizeLine ∧ kc (.dic (putD kvs (.inl a) d)) .non) := by
  show (∃ key, keyOf (.int a) = some key ∧ kvs.length < sizeLine ∧ kc (.dic (putD kvs key d)) .non) = _
  simp [keyOf]
theorem x_app : appC (.lst xs) d kc = (xs.length < sizeLine ∧ kc (.lst (xs ++ [d])) .non) := propext Iff.rfl
def mLst : D → Prop
  | .lst _ => True
  | _ => False
theorem x_isL {ro : Re} : isLst ro ss = vw ro ss mLst := by
  unfold isLst
  congr 1
theorem x_mLst : mLst (.lst xs) = True := propext Iff.rfl
variable {g : WG} {gs : WGs}
theorem x_tp : gTp n gs (.tup ds) ss K = (ds.length = n ∧ gs ds ss K) := propext Iff.rfl
theorem x_gs0 : gsNil [] ss K = K ss := by show (([] : List D) = [] ∧ _) = _; simp
theorem x_gs1 : gsCons g gs (d :: ds) ss K = g d ss fun s => gs ds s K := propext Iff.rfl
def p2S (i j : Nat) (ds : List D) (s : SS) (E : SS → Prop) : Prop := match ds with
  | [d, e] => E { s with r := (s.r.set i (.val d)).set j (.val e) }
  | _ => False
def p3S (i j l : Nat) (ds : List D) (s : SS) (E : SS → Prop) : Prop := match ds with
  | [d, e, g] => E { s with r := ((s.r.set i (.val d)).set j (.val e)).set l (.val g) }
  | _ => False
theorem x_par2 {fs : WA} {E : En} : sPar2 i j fs E ss = fs ss fun ds s => p2S i j ds s E.nx := propext Iff.rfl
theorem x_par3 {fs : WA} {E : En} {l : Nat} : sPar3 i j l fs E ss = fs ss fun ds s => p3S i j l ds s E.nx := propext Iff.rfl
theorem x_p2S {d e : D} : p2S i j [d, e] ss K = K { ss with r := (ss.r.set i (.val d)).set j (.val e) } := propext Iff.rfl
theorem x_p3S {d e g : D} {l : Nat} : p3S i j l [d, e, g] ss K = K { ss with r := ((ss.r.set i (.val d)).set j (.val e)).set l (.val g) } := propext Iff.rfl
theorem x_keep1 : keepV (some (.val d)) = .val d := rfl
theorem x_keep2 : keepV (some (.own c)) = .no := rfl
theorem x_keep3 : keepV (some .no) = .no := rfl
theorem x_wR0 : wipeR r [] = r := rfl
theorem x_wR1 {v : Nat} {vs : List Nat} : wipeR r (v :: vs) = (wipeR r vs).set v .no := rfl
theorem x_uR0 {r' : List SV} : unwR r r' [] = r' := rfl
theorem x_uR1 {r' : List SV} {v : Nat} {vs : List Nat} : unwR r r' (v :: vs) = (unwR r r' vs).set v (keepV r[v]?) := rfl
theorem x_vws0 {k : List D → Prop} : vws [] ss k = k [] := propext Iff.rfl
theorem x_vws1 {k : List D → Prop} {ro : Re} {rs : List Re} : vws (ro :: rs) ss k = vw ro ss fun d => vws rs ss fun ds => k (d :: ds) := propext Iff.rfl
end
end Vl
namespace Vl
open PySem PySem.Spec L2
open PyProof.Rows hiding St

/-! ### sorted(..) of data -/
/-- not above, as Python orders alike data; rev: downwards -/
def leD (rev : Bool) : D → D → Bool := PySem.W.dataLe rev toPy
def srtD (rev : Bool) (xs : List D) : List D := xs.mergeSort (leD rev)
theorem bt_sorted : bootBuiltins "sorted" = some (.builtin "sorted") := by decide +kernel
mutual
/-- data without dicts, cells, values that are not told -/
def plD : D → Bool
  | .non | .bl _ | .int _ | .str _ => true
  | .lst ds | .tup ds => plL ds
  | _ => false
def plL : List D → Bool
  | [] => true
  | d :: ds => plD d && plL ds
end
theorem plL_all : ∀ ds : List D, plL ds = ds.all plD
  | [] => rfl
  | d :: ds => by rw [plL, List.all_cons, plL_all ds]
mutual
theorem rep_dpP {K : PySem.W.Frag} {w : Wd} {H : Hp} (le : Le w H) : ∀ (d : D) (v : V), Rep w d v → plD d = true → Dp K H v (toPy d)
  | .non, v, h, _ => by cases (show v = .non from h); exact .non
  | .bl b, v, h, _ => by cases (show v = .bl b from h); exact .bl b
  | .int i, v, h, _ => by cases (show v = .int i from h); exact .int i
  | .str x, v, h, _ => by cases (show v = .str x from h); exact .str x
  | .lst ds, v, ⟨a, vs, e1, e2, r⟩, z => by subst e1; exact .lst (.inl (le _ _ e2)) (repL_dpP le ds vs r z)
  | .tup ds, v, ⟨a, vs, e1, e2, r⟩, z => by subst e1; exact .tup (.inl (le _ _ e2)) (repL_dpP le ds vs r z)
  | .dic _, _, _, z => by cases z
  | .loc _, _, _, z => by cases z
  | .raw _, _, _, z => by cases z
theorem repL_dpP {K : PySem.W.Frag} {w : Wd} {H : Hp} (le : Le w H) : ∀ (ds : List D) (vs : List V), RepL w ds vs → plL ds = true → DpAll K H vs (toPyL ds)
  | [], vs, h, _ => by subst h; exact .nil
  | d :: ds, _, ⟨v, us, e1, h1, h2⟩, z => by
    subst e1
    have z' : plD d = true ∧ plL ds = true := by
      have q : (plD d && plL ds) = true := z
      simpa using q
    exact .cons (rep_dpP le d v h1 z'.1) (repL_dpP le ds us h2 z'.2)
end
/-- data that can be sorted -/
def srtOk (xs : List D) : Prop := PySem.W.AllAlike (xs.map toPy) ∧ PySem.W.Sortable (xs.map toPy) ∧ xs.all plD = true ∧ ∀ d ∈ xs, (toPy d).depth ≤ 60
theorem zip_snd {α β : Type} : ∀ {xs : List α} {ys : List β}, xs.length = ys.length → (xs.zip ys).map (·.2) = ys
  | [], [], _ => rfl
  | x :: xs, y :: ys, h => congrArg (y :: ·) (zip_snd (Nat.succ.inj h))
theorem zip_fst {α β : Type} : ∀ {xs : List α} {ys : List β}, xs.length = ys.length → (xs.zip ys).map (·.1) = xs
  | [], [], _ => rfl
  | x :: xs, y :: ys, h => congrArg (x :: ·) (zip_fst (Nat.succ.inj h))
/-- the values in the data's order -/
def srtV (rev : Bool) (vs : List V) (xs : List D) : List V := ((vs.zip xs).mergeSort (PySem.W.dataLe rev fun b => toPy b.2)).map (·.1)
theorem srtD_map (rev : Bool) {vs : List V} {xs : List D} (h : vs.length = xs.length) : ((vs.zip xs).mergeSort (PySem.W.dataLe rev fun b => toPy b.2)).map (·.2) = srtD rev xs := by
  have e := List.map_mergeSort (r := PySem.W.dataLe rev fun b : V × D => toPy b.2) (s := PySem.W.dataLe rev toPy) (f := fun p : V × D => p.2) (l := vs.zip xs) (fun _ _ _ _ => rfl)
  rw [zip_snd h] at e
  exact e
theorem repL_srt {w : Wd} (rev : Bool) {vs : List V} {xs : List D} (h : RepL w xs vs) : RepL w (srtD rev xs) (srtV rev vs xs) := by
  have hl := h.length
  rw [← srtD_map rev hl]
  unfold srtV
  have hp : ∀ p ∈ (vs.zip xs).mergeSort (PySem.W.dataLe rev fun b => toPy b.2), Rep w p.2 p.1 := fun p m => by
    have m := (List.mergeSort_perm _ _).mem_iff.mp m
    obtain ⟨i, hi⟩ := List.mem_iff_getElem?.mp m
    rw [List.getElem?_zip_eq_some] at hi
    obtain ⟨v, e1, r⟩ := h.get hi.2
    rw [hi.1] at e1
    cases e1
    exact r
  generalize (vs.zip xs).mergeSort (PySem.W.dataLe rev fun b => toPy b.2) = l at hp
  induction l with
  | nil => rfl
  | cons p l ih => exact ⟨_, _, rfl, hp p List.mem_cons_self, ih fun q m => hp q (List.mem_cons_of_mem _ m)⟩
def rSrt (K : PySem.W.Frag) : List V → Hp → VK → Prop := fun vs H Q => ∃ (a : Addr) (us : List V) (xs : List D), vs = [V.ref a] ∧ SqL K H a us ∧ us.length = xs.length ∧ DpAll K H us (xs.map toPy) ∧ srtOk xs ∧ ∀ p, H p = none → Q (.ref p) (upd H p (.lst (srtV false us xs)))
section
variable {X : Cx} {h : Heap}
theorem each_zip : ∀ {us : List V} {its : List Value} {xs : List D}, Vals us its → us.length = xs.length → PySem.W.EachIs (fun (v : Value) (b : V × D) => RelV b.1 v) its (us.zip xs)
  | _, _, [], .nil, _ => .nil
  | _, _, x :: xs, .cons r t, h => .cons r (each_zip t (Nat.succ.inj h))
theorem each_reads {ps : List (Addr × Obj)} {σ : St} {H : Hp} {s : Shared} (I : Inv X ps σ H s) : ∀ {us : List V} {its : List Value} {xs : List D}, Vals us its → us.length = xs.length → DpAll X.K H us (xs.map toPy) → PySem.W.EachIs (fun (v : Value) (b : V × D) => ∃ as, Reads s.heap v (toPy b.2) as) its (us.zip xs)
  | _, _, [], .nil, _, _ => .nil
  | _, _, x :: xs, .cons r t, h, d => by
    cases d with
    | cons d1 d2 => exact .cons (Dp.reads I _ _ _ d1 r) (each_reads I t (Nat.succ.inj h) d2)
theorem each_vals : ∀ {out : List Value} {l : List (V × D)}, PySem.W.EachIs (fun (v : Value) (b : V × D) => RelV b.1 v) out l → Vals (l.map (·.1)) out
  | _, _, .nil => .nil
  | _, _, .cons r t => .cons r (each_vals t)
theorem zip_toPy {us : List V} {xs : List D} (h : us.length = xs.length) : (us.zip xs).map (fun b => toPy b.2) = xs.map toPy := by
  have := congrArg (List.map toPy) (zip_snd h)
  rw [List.map_map] at this
  exact this
theorem cr_srt (hu : X.A.units + 64 < cLine) : CallR X (.builtin "sorted") (rSrt X.K) := by
  intro pins s σ H vs us Q I r h
  obtain ⟨a, ys, xs, rfl, hs, hl, hd, ⟨h1, h2, _, h4⟩, q⟩ := h
  obtain ⟨its, rv, hL, hz⟩ := I.list hs
  rw [Vals.ref1 r]
  have e := zip_toPy (us := ys) hl
  have hlz : (ys.zip xs).length = ys.length := by rw [List.length_zip, hl, Nat.min_self]
  refine PySem.W.sorted_data (enc := fun b : V × D => toPy b.2) (bs := ys.zip xs) (R := fun v b => RelV b.1 v) hL.isList (each_zip rv hl) (each_reads I rv hl hd) (by rw [e]; exact h1) (by rw [e]; exact h2) (by rw [hlz]; exact hz) (fun b hb => ?_) fun out ho eo => ?_
  · have hm : b.2 ∈ xs := by
      rw [← zip_snd hl]
      exact List.mem_map_of_mem hb
    have := h4 b.2 hm
    show X.A.units + 2 + (toPy b.2).depth < cLine
    omega
  · obtain ⟨ep, he'⟩ := PyProof.Rows.sortedAll_at s.heap its out.toArray
    have rv2 := each_vals eo
    have hlen : (srtV false ys xs).length ≤ sizeLine := by
      have := rv2.length
      unfold srtV
      rw [this, ho, hlz]; exact hz
    refine ⟨.ref _, upd H (s.heap.objs.size + 1) (.lst (srtV false ys xs)), I.laid (t' := s.toks) (fun _ _ => PyProof.Rows.sortedAll_old) (Nat.le_succ _) ⟨hlen, out, ep, rv2, he'⟩, rfl, q _ (I.hok.fresh (Nat.le_succ _))⟩

variable {a b e : Expr} {pos p : Pos} {fr : WR}
def kSrt : KC := k1 fun d P => match d with
  | .lst xs => srtOk xs ∧ P (.new (.lst (srtD false xs)))
  | _ => False
theorem cx_srt : CallX (rSrt X.K) kSrt := callX1 fun w H d v P Q le rd hk hq => by
  split at hk
  · obtain ⟨hs, hp⟩ := hk
    obtain ⟨l, vs, rfl, h1, h2⟩ := rd
    exact ⟨l, vs, _, rfl, .inl h1, h2.length, by rw [← toPyL_map]; exact repL_dpP le _ _ h2 (by rw [plL_all]; exact hs.2.2.1), hs, fun p hn => hq.new p _ (.lst (srtD false _)) hn ⟨_, L2.upd_same, repL_srt false h2⟩ hp⟩
  · exact hk.elim
theorem de_srt (hu : X.A.units + 64 < cLine) (hm : X.mg "sorted" = none) (hg : Gl X "sorted" := by rfl) (ha : DR X [e] fr) (he : starEach [e] X.env = [(false, eval e X.env)] := by rfl) : DE X (.Call (.Name "sorted" p) [e] [] pos) (fBlt kSrt fr) :=
  de_blt (cr_srt hu) cx_srt hm bt_sorted hg ha (by decide) (by decide) he rfl
theorem x_srt {xs : List D} {P : Re → Prop} : kSrt [.lst xs] P = (srtOk xs ∧ P (.new (.lst (srtD false xs)))) := propext Iff.rfl
/-- texts can be sorted -/
theorem srtOk_strs (ns : List Str) : srtOk (ns.map D.str) := by
  refine ⟨fun d hd d' hd' => ?_, .inr fun d hd => ?_, ?_, fun d hd => ?_⟩
  · rw [List.map_map] at hd hd'
    obtain ⟨x, _, rfl⟩ := List.mem_map.mp hd
    obtain ⟨y, _, rfl⟩ := List.mem_map.mp hd'
    rfl
  · rw [List.map_map] at hd
    obtain ⟨x, _, rfl⟩ := List.mem_map.mp hd
    exact ⟨(fun h => by cases h), (fun xs h => by cases h)⟩
  · rw [List.all_map]
    exact List.all_eq_true.mpr fun x _ => rfl
  · obtain ⟨x, _, rfl⟩ := List.mem_map.mp hd
    exact Nat.zero_le _
def srtS (ns : List Str) : List Str := ns.mergeSort fun a b => decide (a.cps.toList ≤ b.cps.toList)
theorem srtD_strs (ns : List Str) : srtD false (ns.map D.str) = (srtS ns).map D.str := by
  have e := List.map_mergeSort (r := fun a b : Str => decide (a.cps.toList ≤ b.cps.toList)) (s := leD false) (f := D.str) (l := ns) (fun x _ y _ => by
    have := congrFun (congrFun (PySem.W.dataLe_str (fun z : Str => z)) x) y
    exact this.symm)
  exact e.symm
end
end Vl
set_option maxHeartbeats 1000000
namespace Vl
open PySem PySem.Spec L2
open PyProof.Rows hiding St

/-! ### sorted of what is walked: a dict's keys -/
section
variable {P : Program} {w : World} {A : Around} {E : Value → Shared → Prop} {s : Shared} {r : Value} {Q : Value → Shared → Prop}
/-- what was gathered stands for the pairs bs -/
structure Gath (s s1 : Shared) (out : List Value) (bs : List (V × D)) : Prop where
  keep : ∀ b o, s.heap.get? b = some o → s1.heap.get? b = some o
  gens : s1.gens = s.gens
  os : s1.os = s.os
  rel : PySem.W.EachIs (fun (v : Value) (b : V × D) => RelV b.1 v) out bs
  reads : PySem.W.EachIs (fun (v : Value) (b : V × D) => ∃ as, Reads s1.heap v (toPy b.2) as) out bs
theorem each_len {α β : Type} {R : α → β → Prop} {l : List α} {m : List β} (h : PySem.W.EachIs R l m) : l.length = m.length := by
  induction h with
  | nil => rfl
  | cons _ _ ih => rw [List.length_cons, List.length_cons, ih]
theorem sorted_gath2 {F : List Value → Shared → Prop} (hc : ∀ {Z : List Value → Shared → Prop}, (∀ out s1, F out s1 → Z out s1) → wpAny (model P w) A.in1 (collect r) Z E s)
    (hF : ∀ out s1, F out s1 → ∃ bs, Gath s s1 out bs ∧ srtOk (bs.map (·.2)) ∧ bs.length ≤ sizeLine ∧ ∀ p s2 its c, PySem.W.EachIs (fun (v : Value) (b : V × D) => RelV b.1 v) its (bs.mergeSort (PySem.W.dataLe false fun b => toPy b.2)) → s1.heap.get? p = none →
      (∀ b o, s1.heap.get? b = some o → s2.heap.get? b = some o) → s2.gens = s1.gens → s2.os = s1.os → s2.heap.get? p = some (seqObj "list" its.toArray c) → Q (.ref p) s2)
    (hu : A.units + 64 < cLine) : wpAny (model P w) A (call (.builtin "sorted") [r]) Q E s := by
  refine Calls.call_function_entry kind_sorted plain_sorted entry_sorted (args_sorted1 _) ?_
  unfold Builtin.«sorted»
  refine wpAny_bind (m := checkCount "sorted" 1 1 _) (wpAny_pure ?_)
  refine wpAny_bind (hc fun out s1 h1 => ?_)
  obtain ⟨bs, G, ⟨k1, k2, _, k4⟩, hz, q⟩ := hF out s1 h1
  have hlo : out.length = bs.length := each_len G.rel
  refine wpAny_bind (wpAny_newList ?_ (by rw [hlo]; exact hz))
  have hoL : (s1.heap.push (seqObj "list" out.toArray 0)).get? s1.heap.objs.size = some (seqObj "list" out.toArray 0) := Heap.get?_push_size _ rfl
  have old : ∀ b o, s1.heap.get? b = some o → b ≠ s1.heap.objs.size ∧ (s1.heap.push (seqObj "list" out.toArray 0)).get? b = some o := fun b o e => ⟨Nat.ne_of_lt (Heap.lt_size e), Heap.get?_push_of_some _ e⟩
  have er : PySem.W.EachIs (fun (v : Value) (b : V × D) => ∃ as, Reads (PySem.W.sortingHeap (s1.heap.push (seqObj "list" out.toArray 0)) s1.heap.objs.size out) v (toPy b.2) as) out bs :=
    G.reads.mono fun _ _ ⟨as, z⟩ => ⟨as, PyProof.Rows.Reads.keeps (fun b o e => PySem.W.sortingHeap_old (old b o e).1 (old b o e).2) z⟩
  have hal : PySem.W.AllAlike (bs.map fun b => toPy b.2) := by
    have := k1
    rw [List.map_map] at this
    exact this
  have hso : PySem.W.Sortable (bs.map fun b => toPy b.2) := by
    have := k2
    rw [List.map_map] at this
    exact this
  have hbd : ∀ d, d ∈ bs.map (fun b => toPy b.2) → A.in1.in1.units + d.depth < cLine := fun d hd => by
    obtain ⟨b, hb, rfl⟩ := List.mem_map.mp hd
    have := k4 b.2 (List.mem_map_of_mem hb)
    show A.units + 1 + 1 + (toPy b.2).depth < cLine
    omega
  refine wpAny_bind (wpAny_holding (wpAny_call_entry slot_list_sort ⟨_, hoL, rfl⟩ entry_list_sort (PySem.W.list_sort_vals (κ := PySem.W.dataKind (PySem.W.sortingHeap (s1.heap.push (seqObj "list" out.toArray 0)) s1.heap.objs.size out) (bs.map fun b => toPy b.2)) hoL
    (PySem.W.SortsAt.data (s := { s1 with heap := PySem.W.sortingHeap (s1.heap.push (seqObj "list" out.toArray 0)) s1.heap.objs.size out }) (PySem.W.each_map (R := fun v d => ∃ as, Reads _ v d as) (fun b : V × D => toPy b.2) er) hal hso hbd) (by rw [hlo]; exact hz) ⟨_, rfl, ?_⟩) (args_list_sort _)))
  have new : s1.heap.get? s1.heap.objs.size = none := by
    cases z : s1.heap.get? s1.heap.objs.size with
    | none => rfl
    | some o => exact absurd (Heap.lt_size z) (Nat.lt_irrefl _)
  obtain ⟨c, hcs⟩ := sortedHeap_at (vs := out) (out := (PySem.W.sortVals (PySem.W.dataKind (PySem.W.sortingHeap (s1.heap.push (seqObj "list" out.toArray 0)) s1.heap.objs.size out) (bs.map fun b => toPy b.2)) false out out).toArray) hoL
  refine wpAny_pure ⟨_, rfl, q s1.heap.objs.size _ _ c (PySem.W.sortVals_data false G.rel er hal) new (fun b o e1 => ?_) rfl rfl hcs⟩
  refine Eq.trans (sortedHeap_old (Nat.ne_of_lt (Heap.lt_size e1)) ?_) (old b o e1).2
  rw [size_push']
  exact Nat.lt_succ_of_lt (Heap.lt_size e1)
theorem sorted_gath {F : List Value → Shared → Prop} (hc : ∀ {Z : List Value → Shared → Prop}, (∀ out s1, F out s1 → Z out s1) → wpAny (model P w) A.in1 (collect r) Z E s)
    (hF : ∀ out s1, F out s1 → ∃ bs, Gath s s1 out bs ∧ srtOk (bs.map (·.2)) ∧ bs.length ≤ sizeLine ∧ ∀ p s2 its c, PySem.W.EachIs (fun (v : Value) (b : V × D) => RelV b.1 v) its (bs.mergeSort (PySem.W.dataLe false fun b => toPy b.2)) → s.heap.get? p = none →
      (∀ b o, s.heap.get? b = some o → s2.heap.get? b = some o) → s2.gens = s.gens → s2.os = s.os → s2.heap.get? p = some (seqObj "list" its.toArray c) → Q (.ref p) s2)
    (hu : A.units + 64 < cLine) : wpAny (model P w) A (call (.builtin "sorted") [r]) Q E s := by
  refine sorted_gath2 hc (fun out s1 h1 => ?_) hu
  obtain ⟨bs, G, z1, z2, q⟩ := hF out s1 h1
  refine ⟨bs, G, z1, z2, fun p s2 its c e hp k g o hg => q p s2 its c e ?_ (fun b u h => k b u (G.keep b u h)) (g.trans G.gens) (o.trans G.os) hg⟩
  cases z : s.heap.get? p with
  | none => rfl
  | some u => rw [G.keep p u z] at hp; cases hp
end
end Vl
set_option maxHeartbeats 1000000
namespace Vl
open PySem PySem.Spec L2
open PyProof.Rows hiding St

section
variable {X : Cx}
def keyB (kvs : List (Key × V)) : List (V × D) := kvs.map fun kv => (kV kv.1, kD kv.1)
theorem mix_rel {P : Program} {w : World} {k : Key} {v : Value} (h : (mixKind P w).is k v = true) : RelV (kV k) v ∧ ∀ hp : Heap, Reads hp v (toPy (kD k)) [] := by
  rw [mixKind_is] at h
  rcases keyIs_shape h with ⟨i, t, rfl, rfl⟩ | ⟨x, t, rfl, rfl⟩
  · exact ⟨⟨t, rfl⟩, fun _ => .int _ _⟩
  · exact ⟨⟨t, rfl⟩, fun _ => .str _ _⟩
theorem each_at {α β : Type} {R : α → β → Prop} : ∀ {l : List α} {m : List β}, l.length = m.length → (∀ (i : Nat) (x : α) (y : β), l[i]? = some x → m[i]? = some y → R x y) → PySem.W.EachIs R l m
  | [], [], _, _ => .nil
  | x :: l, y :: m, h, g => .cons (g 0 x y rfl rfl) (each_at (Nat.succ.inj h) fun i a b e1 e2 => g (i + 1) a b (by simpa using e1) (by simpa using e2))
def rSrtK : List V → Hp → VK → Prop := fun vs H Q => ∃ (a : Addr) (kvs : List (Key × V)), vs = [V.ref a] ∧ Rd H a (.dK kvs) ∧ srtOk (kvs.map fun kv => kD kv.1) ∧ ∀ p, H p = none → Q (.ref p) (L2.upd H p (.lst (srtV false (kvs.map fun kv => kV kv.1) (kvs.map fun kv => kD kv.1))))
theorem keyB_zip : ∀ kvs : List (Key × V), (kvs.map fun kv => kV kv.1).zip (kvs.map fun kv => kD kv.1) = keyB kvs
  | [] => rfl
  | kv :: r => congrArg ((kV kv.1, kD kv.1) :: ·) (keyB_zip r)
theorem kv_at : ∀ {kvs : List (Key × V)} {ws : List (Key × Value)} {i : Nat} {kv : Key × V}, KV kvs ws → kvs[i]? = some kv → ∃ z, ws[i]? = some z ∧ (kv.1 = z.1 ∧ RelV kv.2 z.2)
  | _ :: _, _, 0, _, .cons r _, e => by cases e; exact ⟨_, rfl, r⟩
  | _ :: _, _, i + 1, _, .cons _ t, e => kv_at (i := i) t e
section
variable {P : Program} {w : World} {H : Hp} {h h' : Heap} {a : Addr} {o : HO}
theorem obj_in (x : ObjOk P w H h a o) : ∃ u, h.get? a = some u := by
  cases o with
  | lst _ => let ⟨_, _, _, _, e⟩ := x; exact ⟨_, e⟩
  | tup _ => let ⟨_, _, _, u, e, _⟩ := x; exact ⟨u, e⟩
  | dK _ => let ⟨_, _, _, _, u, _, _, e, _⟩ := x; exact ⟨u, e⟩
  | dT _ => let ⟨_, _, _, _, u, _, _, e, _⟩ := x; exact ⟨u, e⟩
  | set _ _ => let ⟨u, _, _, _, e, _⟩ := x; exact ⟨u, e⟩
  | ins _ _ _ => let ⟨_, _, _, e, _⟩ := x; exact ⟨_, e⟩
  | own _ => exact x
  | xd _ => let ⟨_, ⟨u, _, _, e, _⟩, _⟩ := x; exact ⟨u, e⟩
  | rng _ _ => let ⟨_, _, _, e⟩ := x; exact ⟨_, e⟩
  | frz _ _ => exact ⟨_, x.1⟩
  | tbl _ => exact ⟨_, (show h.get? a = some _ from x)⟩
  | met _ _ => exact ⟨_, (show h.get? a = some _ from x)⟩
  | ext _ => exact x.2.1
theorem new_none (x : HOk P w H h) (e : h.get? a = none) : H a = none := by
  cases q : H a with
  | none => rfl
  | some u => obtain ⟨z, hz⟩ := obj_in (x a u q); rw [e] at hz; cases hz
theorem hok_new (x : HOk P w H h) (k : ∀ b u, h.get? b = some u → h'.get? b = some u) (e : h.get? a = none) (new : ObjOk P w (L2.upd H a o) h' a o) : HOk P w (L2.upd H a o) h' := fun b u q => by
  have none_a := new_none x e
  have ne : ∀ {c : Addr} {v : HO}, H c = some v → c ≠ a := fun hc z => by rw [z, none_a] at hc; cases hc
  by_cases hb : b = a
  · rw [hb, L2.upd_same] at q
    cases q
    rw [hb]; exact new
  · rw [L2.upd_ne hb] at q
    exact ObjOk.stay (x b u q) (fun c v _ => k c v) (fun c hc => (L2.upd_ne (ne hc)).trans hc) fun c _ hc => (L2.upd_ne (ne hc)).trans hc
theorem un_new {fs ex : List Addr} (k : ∀ b u, h.get? b = some u → h'.get? b = some u) (e : h.get? a = none) (hn : H a = none) : Un fs ex H (L2.upd H a o) h h' := by
  have ne : ∀ {c : Addr} {v : HO}, H c = some v → c ≠ a := fun hc z => by rw [z, hn] at hc; cases hc
  refine ⟨fun b u q _ _ _ => k b u q, fun b u q _ _ _ => ⟨_, k b u q⟩, fun b u q n _ => ?_, fun b u q _ => ⟨u, k b u q⟩, fun b _ q => (L2.upd_ne (ne q)).trans q, fun b _ _ q => (L2.upd_ne (ne q)).trans q, fun b _ q => ⟨#[], ?_⟩⟩
  · exact (L2.upd_ne fun z => by rw [z, e] at q; cases q).trans n
  · exact (L2.upd_ne (ne q)).trans (q.trans (by rw [Array.append_empty]))
end
/-- behind a sort -/
theorem srt_end {ps : List (Addr × Obj)} {σ : St} {H : Hp} {s s2 : Shared} {Q : VK} {p c : Nat} {its : List Value} {l : List (V × D)} (I : Inv X ps σ H s) (e : PySem.W.EachIs (fun (v : Value) (b : V × D) => RelV b.1 v) its l) (hl : l.length ≤ sizeLine) (hp : s.heap.get? p = none)
    (k : ∀ b o, s.heap.get? b = some o → s2.heap.get? b = some o) (g : s2.gens = s.gens) (o : s2.os = s.os) (hg : s2.heap.get? p = some (seqObj "list" its.toArray c)) (q : ∀ p, H p = none → Q (.ref p) (L2.upd H p (.lst (l.map (·.1))))) : EP X ps σ Q (.ref p) s2 := by
  have hn : H p = none := new_none I.hok hp
  have hlen : (l.map (·.1)).length ≤ sizeLine := by rw [List.length_map]; exact hl
  have J : Inv X ps σ (L2.upd H p (.lst (l.map (·.1)))) { s with heap := s2.heap, gens := s2.gens, drawn := s2.drawn, toks := s2.toks } :=
    I.call (ch := []) (un_new k hp hn) (hok_new I.hok k hp ⟨hlen, its, c, each_vals e, hg⟩) (by rw [g]; exact I.bare) (fun _ z => nomatch z)
  have es : s2 = { s with heap := s2.heap, gens := s2.gens, drawn := s2.drawn, toks := s2.toks } := by
    obtain ⟨h2, g2, d2, t2, o2⟩ := s2
    obtain ⟨h1, g1, d1, t1, o1⟩ := s
    have o : o2 = o1 := o
    subst o
    rfl
  rw [es]
  exact ⟨.ref p, _, J, rfl, q p hn⟩
theorem cr_srtK (hh : X.A.handled = none) (hu : X.A.units + 64 < cLine) : CallR X (.builtin "sorted") rSrtK := by
  intro pins s σ H vs us Q I r h
  obtain ⟨a, kvs, rfl, hd, hs, q⟩ := h
  obtain ⟨hz, lo, ws, rel, dd⟩ := dk_rd I.hok hd
  obtain ⟨ep, hat⟩ := dd.dictAt
  have hl : kvs.length = ws.length := Paired.length rel
  rw [Vals.ref1 r]
  refine sorted_gath (F := fun out s1 => ∃ (tk : Nat) (acc : Array Value), out = acc.toList ∧ (∃ h', s1 = { s with heap := h', toks := tk } ∧ ∀ b o, s.heap.get? b = some o → h'.get? b = some o) ∧ ItemsOf (fun i v => ∃ k x, ws[i]? = some (k, x) ∧ (mixKind X.prog X.w).is k v = true) acc ws.length)
    (fun {Z} hZ => PySem.W.kdu_collect (A := X.A.in1) (PySem.W.kdl_dict (knd := mixKind X.prog X.w) (kvs := ws) (ep := ep) lo) hh hat (by rw [← hl]; exact hz) fun h' tk acc hk hacc => hZ _ _ ⟨tk, acc, rfl, ⟨h', rfl, hk⟩, hacc⟩) ?_ hu
  rintro out s1 ⟨tk, acc, rfl, ⟨h', rfl, hk⟩, hacc⟩
  have hb : acc.toList.length = (keyB kvs).length := by
    unfold keyB
    rw [Array.length_toList, hacc.1, List.length_map, hl]
  have key : ∀ (i : Nat) (x : Value) (y : V × D), acc.toList[i]? = some x → (keyB kvs)[i]? = some y → RelV y.1 x ∧ ∃ as, Reads h' x (toPy y.2) as := fun i x y e1 e2 => by
    obtain ⟨k, u, e3, e4⟩ := hacc.2 i x (by rw [← Array.getElem?_toList]; exact e1)
    unfold keyB at e2
    rw [List.getElem?_map] at e2
    cases e5 : kvs[i]? with
    | none => rw [e5] at e2; cases e2
    | some kv =>
      rw [e5] at e2
      have e2 : (kV kv.1, kD kv.1) = y := Option.some.inj e2
      subst e2
      obtain ⟨z, ez, rz⟩ := kv_at rel e5
      rw [e3] at ez
      have ez : (k, u) = z := Option.some.inj ez
      subst ez
      have ek : kv.1 = k := rz.1
      rw [ek]
      obtain ⟨m1, m2⟩ := mix_rel e4
      exact ⟨m1, _, m2 h'⟩
  refine ⟨keyB kvs, ⟨hk, rfl, rfl, each_at hb fun i x y e1 e2 => (key i x y e1 e2).1, each_at hb fun i x y e1 e2 => (key i x y e1 e2).2⟩, ?_, ?_, fun p s2 its c e hp k g o hg => ?_⟩
  · have : (keyB kvs).map (·.2) = kvs.map fun kv => kD kv.1 := by unfold keyB; rw [List.map_map]; rfl
    rw [this]; exact hs
  · unfold keyB; rw [List.length_map]; exact hz
  · refine srt_end I e (by rw [List.length_mergeSort]; unfold keyB; rw [List.length_map]; exact hz) hp k g o hg fun p hn => ?_
    have := q p hn
    unfold srtV at this
    rw [keyB_zip] at this
    exact this

variable {e : Expr} {pos p : Pos} {fr : WR}
/-- sorted(xs): a list, a dict's keys -/
def kSrtA : KC := k1 fun d P => match d with
  | .lst xs => srtOk xs ∧ P (.new (.lst (srtD false xs)))
  | .dic kvs => srtOk (kvs.map fun kv => kD kv.1) ∧ P (.new (.lst (srtD false (kvs.map fun kv => kD kv.1))))
  | _ => False
theorem repL_keys {w : Wd} : ∀ kvs : List (Key × V), RepL w (kvs.map fun kv => kD kv.1) (kvs.map fun kv => kV kv.1)
  | [] => rfl
  | kv :: r => ⟨_, _, rfl, rep_kD kv.1, repL_keys r⟩
theorem keys_kD {w : Wd} {kvs : List (Key × D)} {kws : List (Key × V)} (h : RepK w kvs kws) : (kws.map fun kv => kD kv.1) = kvs.map fun kv => kD kv.1 := by
  have e := congrArg (List.map kD) h.keys
  rw [List.map_map, List.map_map] at e
  exact e
theorem cx_srtA : CallX (fun xs H Q => rSrt X.K xs H Q ∨ rSrtK xs H Q) kSrtA := callX1 fun w H d v P Q le rd hk hq => by
  split at hk
  · obtain ⟨hs, hp⟩ := hk
    obtain ⟨l, vs, rfl, h1, h2⟩ := rd
    exact .inl ⟨l, vs, _, rfl, .inl h1, h2.length, by rw [← toPyL_map]; exact repL_dpP le _ _ h2 (by rw [plL_all]; exact hs.2.2.1), hs, fun p hn => hq.new p _ (.lst (srtD false _)) hn ⟨_, L2.upd_same, repL_srt false h2⟩ hp⟩
  · obtain ⟨hs, hp⟩ := hk
    obtain ⟨l, kws, rfl, h1, h2⟩ := rd
    have ek := keys_kD h2
    refine .inr ⟨l, kws, rfl, h1, by rw [ek]; exact hs, fun p hn => hq.new p _ (.lst (srtD false _)) hn ⟨_, L2.upd_same, ?_⟩ hp⟩
    rw [← ek]
    exact repL_srt false (repL_keys kws)
  · exact hk.elim
theorem de_srtA (hh : X.A.handled = none) (hu : X.A.units + 64 < cLine) (hm : X.mg "sorted" = none) (hg : Gl X "sorted" := by rfl) (ha : DR X [e] fr) (he : starEach [e] X.env = [(false, eval e X.env)] := by rfl) : DE X (.Call (.Name "sorted" p) [e] [] pos) (fBlt kSrtA fr) :=
  de_blt ((cr_srt hu).or (cr_srtK hh hu)) cx_srtA hm bt_sorted hg ha (by decide) (by decide) he rfl
theorem x_srt_l {xs : List D} {P : Re → Prop} : kSrtA [.lst xs] P = (srtOk xs ∧ P (.new (.lst (srtD false xs)))) := propext Iff.rfl
theorem x_srt_d {kvs : List (Key × D)} {P : Re → Prop} : kSrtA [.dic kvs] P = (srtOk (kvs.map fun kv => kD kv.1) ∧ P (.new (.lst (srtD false (kvs.map fun kv => kD kv.1))))) := propext Iff.rfl
end
end Vl
namespace Vl
open PySem PySem.Spec L2
open PyProof.Rows hiding St

/-! ### {k: v for x in xs if ..} -/
def compD (g : WG) (gt : WT) (fk fe : WV) (vs : List Nat) : List D → List (Key × D) → SS → (List (Key × D) → SS → Prop) → Prop
  | [], acc, s, K => K acc s
  | d :: r, acc, s, K => g d s fun s1 => gt s1 fun b s2 => if b = true then fk s2 fun y s3 => fe s3 fun z s4 => ∃ k, keyOf y = some k ∧ acc.length < sizeLine ∧ compD g gt fk fe vs r (putD acc k z) (wipeS vs s4) K else compD g gt fk fe vs r acc (wipeS vs s2) K
def fDc (fi : WI) (g : WG) (gt : WT) (fk fe : WV) (vs : List Nat) : WE := fun ss G => fi ss fun ds s => compD g gt fk fe vs ds [] (wipeS vs s) fun acc s' => G (.new (.dic acc)) (unwS s s' vs)
theorem dc_run {X : Cx} {wi : TI} {fi : WI} {g : WG} {gt : WT} {fk fe : WV} {vs vg : List Nat} (hv : ∀ i ∈ vg, i ∈ vs)
    (hfi : ∀ (B : Hp) (R : Addr → Prop) (w : Wd) (σ : St) (H : Hp) (ss : SS) (G : List D → SS → Prop) (Q : It → Hp → Prop), Ok B R w σ H ss → fi ss G →
      (∀ J H' ds ss' w' B1 R1, Ok B1 R1 w' σ H' ss' → Ext w w' → Back X B R B1 R1 w' → Runs B1 R1 w' J ds → G ds ss' → Q J H') → wi σ H Q)
    (B : Hp) (R : Addr → Prop) (w : Wd) (σ : St) (H : Hp) (ss : SS) (G : Re → SS → Prop) (Q : VK) (o : Ok B R w σ H ss) (hw : fDc fi g gt fk fe vs ss G)
    (hq : ∀ v H' r ss' w', Ok B R w' σ H' ss' → RepR B R w' σ H' ss' r v → Ext w w' → G r ss' → Q v H') : tDc wi (rdG vg g) (rdT gt) (rdV fk) (rdV fe) vs σ H (fun v H' => Unl X (Q v) H') := by
  refine hfi B R w σ H ss _ _ o hw fun J H1 ds s1 w1 B1 R1 o1 e1 bk runs h1 p hp => ?_
  obtain ⟨pF, pB, pR, pc, po⟩ := o1.fresh hp
  have oA := (o1.wiped vs).apart (u := .dK []) hp
  let K := fun (acc : List (Key × D)) s' => G (.new (.dic acc)) (unwS s1 s' vs)
  let W := fun (j : Nat) (H2 : Hp) => ∃ us acc ss' w', Ok (L2.upd B1 p (.dK us)) (fun a => R1 a ∨ a = p) w' (wipe σ vs) H2 ss' ∧ Ext w1 w' ∧ RepK w' acc us ∧ compD g gt fk fe vs (ds.drop j) acc ss' K
  refine ⟨fun i m H2 => m = ds.length - i ∧ i ≤ ds.length ∧ W i H2, ⟨ds.length, by simp, Nat.zero_le _, [], [], _, w1, oA, .refl w1, rfl, h1⟩, ?_⟩
  rintro i m H2 ⟨rfl, hi, us, acc, s2, w2, o2, e2, ra, h2⟩
  have hB2 : ∀ b x, B1 b = some x → H2 b = some x := fun b x h => o2.bs b x (by rw [L2.upd_ne (fun z => by rw [z, pB] at h; cases h)]; exact h)
  obtain ⟨go, stop⟩ := runs _ _ w2 _ H2 s2 hB2 o2 e2
  by_cases hlt : i < ds.length
  · obtain ⟨g1, g2⟩ := go i hlt
    refine .inr ⟨g1, W (i + 1), fun H' h => ⟨ds.length - (i + 1), by omega, rfl, hlt, h⟩, fun x H3 y => ?_⟩
    obtain ⟨d, w3, hd, o3, e3, r3⟩ := g2 x H3 y
    have hdrop : ds.drop i = d :: ds.drop (i + 1) := by
      rw [List.drop_eq_getElem_cons hlt]
      rw [List.getElem?_eq_getElem hlt] at hd
      rw [Option.some.inj hd]
    rw [hdrop] at h2
    refine ⟨_, _, w3, s2, d, _, o3, r3, h2, fun σ4 H4 s4 w4 o4 e4 q4 h4 => ⟨by rw [q4 vs hv]; exact wipe_wipe σ vs, ?_⟩⟩
    have q4' : wipe σ4 vs = wipe σ vs := by rw [q4 vs hv]; exact wipe_wipe σ vs
    refine ⟨_, _, w4, s4, _, o4, h4, fun b H5 s5 w5 o5 e5 h5 => ?_⟩
    have e15 := e2.trans (e3.trans (e4.trans e5))
    have e25 := e3.trans (e4.trans e5)
    cases b with
    | true =>
      refine iteT ⟨_, _, w5, s5, _, o5, h5, fun yv H6 dy s6 w6 o6 r6 e6 h6 => ⟨_, _, w6, s6, _, o6, h6, fun zv H7 dz s7 w7 o7 r7 e7 h7 => ?_⟩⟩
      obtain ⟨k, hk, hz, h7⟩ := h7
      have q0 : H7 p = some (.dK us) := o7.bs p _ L2.upd_same
      refine ⟨us, k, keyOf_rep hk r6, q0, by rw [ra.length]; exact hz, putK us k zv, putD acc k dz, _, w7, ?_, e15.trans (e6.trans e7), (ra.ext (e25.trans (e6.trans e7))).put k r7, h7⟩
      have := (o7.wiped vs).bump (u' := .dK (putK us k zv)) (.inr rfl)
      rw [q4'] at this
      exact this
    | false =>
      refine iteF ⟨us, acc, _, w5, ?_, e15, ra.ext e25, h5⟩
      have := o5.wiped vs
      rw [q4'] at this
      exact this
  · have e : ds.drop i = [] := List.drop_eq_nil_of_le (by omega)
    rw [e] at h2
    refine .inl ⟨stop i (by omega), ?_⟩
    have h2 : G (.new (.dic acc)) (unwS s1 s2 vs) := h2
    have o2' := o1.unwiped o2 e2
    obtain ⟨o3, r3⟩ := o2'.given (c := .dic acc) pB pR ⟨us, o2.bs p _ L2.upd_same, ra⟩
    exact bk w2 σ H2 _ o3 e2 _ fun H'' o'' tr => hq _ H'' _ _ w2 o'' (tr _ _ r3) (e1.trans e2) h2
section
variable {X : Cx} {kx vx tg iter : Expr} {pos : Pos} {fi : WI} {g : WG} {gt : WT} {fk fv : WV} {ifs : List Expr} {scope : Scope} {vg : List Nat}
theorem de_dc (own : List (Str × Nat)) (hc : X.calm = true) (hN : X.N.Nodup) (ok : BlkOk X.N X.env.scope scope own) (hi : DI X tg iter fi)
    (hg : ∀ (s : Shared) (H : Hp) (C : Addr) (cl : List (Str × Addr)) (fp : List Addr), DG (X.blk s H scope (compEnvC scope cl C X.env) fp) vg tg g) (hv : ∀ i ∈ vg, i ∈ own.map (·.2))
    (ht : ∀ (s : Shared) (H : Hp) (C : Addr) (cl : List (Str × Addr)) (fp : List Addr), DTs (X.blk s H scope (compEnvC scope cl C X.env) fp) ifs gt)
    (hk : ∀ (s : Shared) (H : Hp) (C : Addr) (cl : List (Str × Addr)) (fp : List Addr), DV (X.blk s H scope (compEnvC scope cl C X.env) fp) kx fk)
    (he : ∀ (s : Shared) (H : Hp) (C : Addr) (cl : List (Str × Addr)) (fp : List Addr), DV (X.blk s H scope (compEnvC scope cl C X.env) fp) vx fv) (hs : ∀ x, foldedSetIterable iter X.env x = pure x := by intro _; rfl) :
    DE X (.DictComp kx vx [⟨tg, iter, ifs, 0⟩] scope pos) (fDc fi g gt fk fv (own.map (·.2))) := by
  obtain ⟨wi, pi, hfi⟩ := hi
  refine ⟨_, pe_unl (pe_dc hc hN pi ok (fun s H C cl fp => (hg s H C cl fp).pg) (fun s H C cl fp => ht s H C cl fp) (fun s H C cl fp => (hk s H C cl fp).pe) (fun s H C cl fp => (he s H C cl fp).pe) hs), fun B R w σ H ss G Q o hw hq => ?_⟩
  exact dc_run hv hfi B R w σ H ss G Q o hw hq
/-- .. an invariant by turns -/
theorem compD_inv {K : List (Key × D) → SS → Prop} {vs : List Nat} (I : Nat → List (Key × D) → SS → Prop) : ∀ (ds : List D) (j : Nat) (acc : List (Key × D)) (s : SS),
    (∀ i d acc s, ds[i]? = some d → I (j + i) acc s → ∀ P : Option (Key × D) → SS → Prop, (∀ s', I (j + i + 1) acc s' → P none s') → (∀ k z s', I (j + i + 1) (putD acc k z) s' → P (some (k, z)) s') →
      g d s fun s1 => gt s1 fun b s2 => if b = true then fk s2 fun y s3 => fv s3 fun z s4 => ∃ k, keyOf y = some k ∧ P (some (k, z)) (wipeS vs s4) else P none (wipeS vs s2)) →
    (∀ i acc s, I i acc s → acc.length ≤ i) → j + ds.length ≤ sizeLine → (∀ acc s, I (j + ds.length) acc s → K acc s) → I j acc s → compD g gt fk fv vs ds acc s K
  | [], j, acc, s, _, _, _, fin, h => fin acc s h
  | d :: ds, j, acc, s, step, hb, hl, fin, h => by
    unfold compD
    rw [List.length_cons] at hl
    have nxt : ∀ acc' s', I (j + 1) acc' s' → compD g gt fk fv vs ds acc' s' K := fun acc' s' h' => by
      refine compD_inv I ds (j + 1) acc' s' (fun i d acc s e hi P h0 h1 => ?_) hb (by omega) (fun acc s hs => fin acc s (by rw [List.length_cons]; exact (by rw [Nat.add_right_comm] at hs; exact hs))) h'
      have e1 : j + 1 + i = j + (i + 1) := by omega
      rw [e1] at hi h0 h1
      exact step (i + 1) d acc s e hi P h0 h1
    have key := step 0 d acc s rfl h (fun o s' => match o with | some (k, z) => acc.length < sizeLine ∧ compD g gt fk fv vs ds (putD acc k z) s' K | none => compD g gt fk fv vs ds acc s' K) (fun s' h' => nxt acc s' h')
      fun k z s' h' => ⟨Nat.lt_of_le_of_lt (hb _ _ _ h) (by omega), nxt _ s' h'⟩
    exact key
end
end Vl
namespace Vl
open PySem PySem.Spec L2
open PyProof.Rows hiding St

/-! ### what is walked within a comprehension: lists, tuples -/
def rdJ (f : WI) : TI := fun σ H R => ∃ (B : Hp) (Rr : Addr → Prop) (w : Wd) (ss : SS) (G : List D → SS → Prop), Ok B Rr w σ H ss ∧ f ss G ∧ ∀ J H' ds ss' w', Ok B Rr w' σ H' ss' → Ext w w' → Runs (fun _ => none) (fun _ => False) w' J ds → G ds ss' → R J H'
def DJ (X : Cx) (tg iter : Expr) (f : WI) : Prop := PI X tg iter (rdJ f)
def seqD (d : D) (k : List D → Prop) : Prop := match d with
  | .lst ds => k ds
  | .tup ds => k ds
  | _ => False
def fSeq (f : WV) : WI := fun ss G => f ss fun d s => seqD d fun ds => G ds s
theorem dj_seq {X : Cx} {tg e : Expr} {f : WV} (h : DV X e f) : DJ X tg e (fSeq f) := by
  have p : PI X tg e (iAny X (rdV f)) := pi_any h.pe
  refine ⟨fun pins s σ H R I ⟨B, Rr, w, ss, G, o, hw, hq⟩ => p.run pins s σ H R I ⟨B, Rr, w, ss, _, o, hw, fun v H' d ss' w' o' r' ex hg => ?_⟩⟩
  unfold seqD at hg
  split at hg
  · obtain ⟨a, vs, rfl, hF, rl⟩ := r'
    exact .inl ⟨a, rfl, ⟨vs, .inl (o'.le _ _ hF)⟩, hq _ H' _ ss' w' o' ex (list_runs hF rl) hg⟩
  · obtain ⟨a, vs, rfl, hF, rl⟩ := r'
    exact .inr (.inl ⟨a, rfl, ⟨vs, .inl (o'.le _ _ hF)⟩, hq _ H' _ ss' w' o' ex (tup_runs hF rl) hg⟩)
  · exact hg.elim

/-! ### [e for x in xs if .. for y in ys if ..] -/
def compW2 (g : WG) (gt : WT) (fi1 : WI) (g1 : WG) (gt1 : WT) (fe : WV) (vs vs1 : List Nat) : List D → List D → SS → (List D → SS → Prop) → Prop
  | [], acc, s, K => K acc s
  | d :: r, acc, s, K => g d s fun s1 => gt s1 fun b s2 => if b = true then fi1 s2 fun ds1 s3 => compW g1 gt1 fe vs1 ds1 acc (wipeS vs1 s3) fun acc' s4 => compW2 g gt fi1 g1 gt1 fe vs vs1 r acc' (wipeS vs s4) K
      else compW2 g gt fi1 g1 gt1 fe vs vs1 r acc (wipeS vs s2) K
def fLc2 (fi : WI) (g : WG) (gt : WT) (fi1 : WI) (g1 : WG) (gt1 : WT) (fe : WV) (vs vs1 : List Nat) : WE := fun ss G => fi ss fun ds s => compW2 g gt fi1 g1 gt1 fe vs vs1 ds [] (wipeS vs s) fun acc s' => G (.new (.lst acc)) (unwS s s' vs)
theorem wipe_mem {σ : St} {vs vs1 : List Nat} (hv : ∀ i ∈ vs1, i ∈ vs) : wipe (wipe σ vs1) vs = wipe σ vs := by
  induction vs1 with
  | nil => rfl
  | cons i r ih =>
    have hi := hv i List.mem_cons_self
    show wipe ((wipe σ r).set i none) vs = wipe σ vs
    rw [wipe_set hi]
    exact ih fun j hj => hv j (List.mem_cons_of_mem _ hj)
theorem lc2_run {X : Cx} {wi : TI} {fi fi1 : WI} {g g1 : WG} {gt gt1 : WT} {fe : WV} {vs vs1 vg vg1 : List Nat} (hv : ∀ i ∈ vg, i ∈ vs) (hv1 : ∀ i ∈ vg1, i ∈ vs1) (hvv : ∀ i ∈ vs1, i ∈ vs)
    (hfi : ∀ (B : Hp) (R : Addr → Prop) (w : Wd) (σ : St) (H : Hp) (ss : SS) (G : List D → SS → Prop) (Q : It → Hp → Prop), Ok B R w σ H ss → fi ss G →
      (∀ J H' ds ss' w' B1 R1, Ok B1 R1 w' σ H' ss' → Ext w w' → Back X B R B1 R1 w' → Runs B1 R1 w' J ds → G ds ss' → Q J H') → wi σ H Q)
    (B : Hp) (R : Addr → Prop) (w : Wd) (σ : St) (H : Hp) (ss : SS) (G : Re → SS → Prop) (Q : VK) (o : Ok B R w σ H ss) (hw : fLc2 fi g gt fi1 g1 gt1 fe vs vs1 ss G)
    (hq : ∀ v H' r ss' w', Ok B R w' σ H' ss' → RepR B R w' σ H' ss' r v → Ext w w' → G r ss' → Q v H') : tLc2 wi (rdG vg g) (rdT gt) (rdJ fi1) (rdG vg1 g1) (rdT gt1) (rdV fe) vs vs1 σ H (fun v H' => Unl X (Q v) H') := by
  refine hfi B R w σ H ss _ _ o hw fun J H1 ds s1 w1 B1 R1 o1 e1 bk runs h1 p hp => ?_
  obtain ⟨pF, pB, pR, pc, po⟩ := o1.fresh hp
  have oA := (o1.wiped vs).apart (u := .lst []) hp
  let K := fun (acc : List D) s' => G (.new (.lst acc)) (unwS s1 s' vs)
  let C2 := fun (j : Nat) (acc : List D) (s : SS) => compW2 g gt fi1 g1 gt1 fe vs vs1 (ds.drop j) acc s K
  let W := fun (j : Nat) (H2 : Hp) => ∃ us acc ss' w', Ok (L2.upd B1 p (.lst us)) (fun a => R1 a ∨ a = p) w' (wipe σ vs) H2 ss' ∧ Ext w1 w' ∧ RepL w' acc us ∧ C2 j acc ss'
  refine ⟨fun i m H2 => m = ds.length - i ∧ i ≤ ds.length ∧ W i H2, ⟨ds.length, by simp, Nat.zero_le _, [], [], _, w1, oA, .refl w1, rfl, h1⟩, ?_⟩
  rintro i m H2 ⟨rfl, hi, us, acc, s2, w2, o2, e2, ra, h2⟩
  have hB : ∀ {us : List V} {w' : Wd} {σ' : St} {H' : Hp} {ss' : SS}, Ok (L2.upd B1 p (.lst us)) (fun a => R1 a ∨ a = p) w' σ' H' ss' → ∀ b x, B1 b = some x → H' b = some x := fun o b x h => o.bs b x (by rw [L2.upd_ne (fun z => by rw [z, pB] at h; cases h)]; exact h)
  obtain ⟨go, stop⟩ := runs _ _ w2 _ H2 s2 (hB o2) o2 e2
  by_cases hlt : i < ds.length
  · obtain ⟨g1', g2⟩ := go i hlt
    refine .inr ⟨g1', W (i + 1), fun H' h => ⟨ds.length - (i + 1), by omega, rfl, hlt, h⟩, fun x H3 y => ?_⟩
    obtain ⟨d, w3, hd, o3, e3, r3⟩ := g2 x H3 y
    have hdrop : ds.drop i = d :: ds.drop (i + 1) := by
      rw [List.drop_eq_getElem_cons hlt]
      rw [List.getElem?_eq_getElem hlt] at hd
      rw [Option.some.inj hd]
    have h2 : compW2 g gt fi1 g1 gt1 fe vs vs1 (ds.drop i) acc s2 K := h2
    rw [hdrop] at h2
    refine ⟨_, _, w3, s2, d, _, o3, r3, h2, fun σ4 H4 s4 w4 o4 e4 q4 h4 => ⟨by rw [q4 vs hv]; exact wipe_wipe σ vs, ?_⟩⟩
    have q4' : wipe σ4 vs = wipe σ vs := by rw [q4 vs hv]; exact wipe_wipe σ vs
    refine ⟨_, _, w4, s4, _, o4, h4, fun b H5 s5 w5 o5 e5 h5 => ?_⟩
    have e15 := e2.trans (e3.trans (e4.trans e5))
    have ra5 := ra.ext (e3.trans (e4.trans e5))
    cases b with
    | false =>
      refine iteF ⟨us, acc, _, w5, ?_, e15, ra5, h5⟩
      have := o5.wiped vs
      rw [q4'] at this
      exact this
    | true =>
      refine iteT ⟨_, _, w5, s5, _, o5, h5, fun J1 H6 ds1 s6 w6 o6 e6 runs1 h6 => ?_⟩
      let K1 := fun (acc' : List D) s4 => compW2 g gt fi1 g1 gt1 fe vs vs1 (ds.drop (i + 1)) acc' (wipeS vs s4) K
      let W1 := fun (j : Nat) (H7 : Hp) => ∃ us acc ss' w', Ok (L2.upd B1 p (.lst us)) (fun a => R1 a ∨ a = p) w' (wipe σ4 vs1) H7 ss' ∧ Ext w6 w' ∧ RepL w' acc us ∧ compW g1 gt1 fe vs1 (ds1.drop j) acc ss' K1
      refine ⟨fun j m H7 => m = ds1.length - j ∧ j ≤ ds1.length ∧ W1 j H7, ⟨ds1.length, by simp, Nat.zero_le _, us, acc, _, w6, o6.wiped vs1, .refl w6, ra5.ext e6, h6⟩, ?_⟩
      rintro j m H7 ⟨rfl, hj, us7, acc7, s7, w7, o7, e7, ra7, h7⟩
      obtain ⟨go1, stop1⟩ := runs1 _ _ w7 _ H7 s7 (fun _ _ h => by cases h) o7 e7
      have e27 := e15.trans (e6.trans e7)
      by_cases hlt1 : j < ds1.length
      · obtain ⟨g3, g4⟩ := go1 j hlt1
        refine .inr ⟨g3, W1 (j + 1), fun H' h => ⟨ds1.length - (j + 1), by omega, rfl, hlt1, h⟩, fun x1 H8 y1 => ?_⟩
        obtain ⟨d1, w8, hd1, o8, e8, r8⟩ := g4 x1 H8 y1
        have hdrop1 : ds1.drop j = d1 :: ds1.drop (j + 1) := by
          rw [List.drop_eq_getElem_cons hlt1]
          rw [List.getElem?_eq_getElem hlt1] at hd1
          rw [Option.some.inj hd1]
        rw [hdrop1] at h7

        refine ⟨_, _, w8, s7, d1, _, o8, r8, h7, fun σ9 H9 s9 w9 o9 e9 q9 h9 => ⟨by rw [q9 vs1 hv1, wipe_wipe], ?_⟩⟩
        have q9' : wipe σ9 vs1 = wipe σ4 vs1 := by rw [q9 vs1 hv1, wipe_wipe]
        refine ⟨_, _, w9, s9, _, o9, h9, fun b H10 s10 w10 o10 e10 h10 => ?_⟩
        have e710 := e7.trans (e8.trans (e9.trans e10))
        have ra10 := ra7.ext (e8.trans (e9.trans e10))
        cases b with
        | false =>
          refine iteF ⟨us7, acc7, _, w10, ?_, e710, ra10, h10⟩
          have := o10.wiped vs1
          rw [q9'] at this
          exact this
        | true =>
          refine iteT ⟨_, _, w10, s10, _, o10, h10, fun v H11 dy s11 w11 o11 r11 e11 ⟨hz, h11⟩ => ⟨us7, o11.bs p _ L2.upd_same, by rw [ra7.length]; exact hz, us7 ++ [v], acc7 ++ [dy], _, w11, ?_, e710.trans e11, (ra10.ext e11).append ⟨v, [], rfl, r11, rfl⟩, h11⟩⟩
          have := (o11.wiped vs1).bump (u' := .lst (us7 ++ [v])) (.inr rfl)
          rw [q9'] at this
          exact this
      · have e : ds1.drop j = [] := List.drop_eq_nil_of_le (by omega)
        rw [e] at h7
        have h7 : K1 acc7 s7 := h7
        refine .inl ⟨stop1 j (by omega), us7, acc7, _, w7, ?_, e27, ra7, h7⟩
        have := o7.wiped vs
        rw [wipe_mem (σ := σ4) hvv, q4'] at this
        exact this
  · have e : ds.drop i = [] := List.drop_eq_nil_of_le (by omega)
    have h2 : compW2 g gt fi1 g1 gt1 fe vs vs1 (ds.drop i) acc s2 K := h2
    rw [e] at h2
    refine .inl ⟨stop i (by omega), ?_⟩
    have h2 : G (.new (.lst acc)) (unwS s1 s2 vs) := h2
    have o2' := o1.unwiped o2 e2
    obtain ⟨o3, r3⟩ := o2'.given (c := .lst acc) pB pR ⟨us, o2.bs p _ L2.upd_same, ra⟩
    exact bk w2 σ H2 _ o3 e2 _ fun H'' o'' tr => hq _ H'' _ _ w2 o'' (tr _ _ r3) (e1.trans e2) h2
section
variable {X : Cx} {elt tg iter tg1 iter1 : Expr} {pos spos py : Pos} {fi fi1 : WI} {g g1 : WG} {gt gt1 : WT} {fv : WV} {ifs ifs1 : List Expr} {scope : Scope} {vg vg1 : List Nat}
theorem de_lc2 (own : List (Str × Nat)) (vs1 : List Nat) (hc : X.calm = true) (hN : X.N.Nodup) (ok : BlkOk X.N X.env.scope scope own) (hi : DI X tg iter fi)
    (hg : ∀ (s : Shared) (H : Hp) (C : Addr) (cl : List (Str × Addr)) (fp : List Addr), DG (X.blk s H scope (compEnvC scope cl C X.env) fp) vg tg g)
    (ht : ∀ (s : Shared) (H : Hp) (C : Addr) (cl : List (Str × Addr)) (fp : List Addr), DTs (X.blk s H scope (compEnvC scope cl C X.env) fp) ifs gt)
    (hi1 : ∀ (s : Shared) (H : Hp) (C : Addr) (cl : List (Str × Addr)) (fp : List Addr), DJ (X.blk s H scope (compEnvC scope cl C X.env) fp) tg1 iter1 fi1)
    (hg1 : ∀ (s : Shared) (H : Hp) (C : Addr) (cl : List (Str × Addr)) (fp : List Addr), DG (X.blk s H scope (compEnvC scope cl C X.env) fp) vg1 tg1 g1)
    (ht1 : ∀ (s : Shared) (H : Hp) (C : Addr) (cl : List (Str × Addr)) (fp : List Addr), DTs (X.blk s H scope (compEnvC scope cl C X.env) fp) ifs1 gt1)
    (he : ∀ (s : Shared) (H : Hp) (C : Addr) (cl : List (Str × Addr)) (fp : List Addr), DV (X.blk s H scope (compEnvC scope cl C X.env) fp) elt fv)
    (hv : ∀ i ∈ vg, i ∈ own.map (·.2) := by decide) (hv1 : ∀ i ∈ vg1, i ∈ vs1 := by decide) (hvv : ∀ i ∈ vs1, i ∈ own.map (·.2) := by decide)
    (hs : ∀ x, foldedSetIterable iter X.env x = pure x := by intro _; rfl) (hs1 : ∀ env x, foldedSetIterable iter1 env x = pure x := by intro _ _; rfl) :
    DE X (.ListComp elt [⟨tg, iter, ifs, 0⟩, ⟨tg1, iter1, ifs1, 0⟩] scope pos) (fLc2 fi g gt fi1 g1 gt1 fv (own.map (·.2)) vs1) := by
  obtain ⟨wi, pi, hfi⟩ := hi
  refine ⟨_, pe_unl (pe_lc2 hc hN pi ok hvv (fun s H C cl fp => (hg s H C cl fp).pg) (fun s H C cl fp => ht s H C cl fp) (fun s H C cl fp => hi1 s H C cl fp) (fun s H C cl fp => (hg1 s H C cl fp).pg) (fun s H C cl fp => ht1 s H C cl fp) (fun s H C cl fp => (he s H C cl fp).pe) hs hs1), fun B R w σ H ss G Q o hw hq => ?_⟩
  exact lc2_run hv hv1 hvv hfi B R w σ H ss G Q o hw hq
theorem ds_setLc2 (own : List (Str × Nat)) (vs1 : List Nat) {i : Nat} {y : Str} (hc : X.calm = true) (hN : X.N.Nodup) (hsw : swapsWith (.ListComp elt [⟨tg, iter, ifs, 0⟩, ⟨tg1, iter1, ifs1, 0⟩] scope pos) (some (.Name y py)) spos.line X.env = pure true) (ok : BlkOk X.N X.env.scope scope own) (hi : DI X tg iter fi)
    (hg : ∀ (s : Shared) (H : Hp) (C : Addr) (cl : List (Str × Addr)) (fp : List Addr), DG (X.blk s H scope (compEnvC scope cl C X.env) fp) vg tg g)
    (ht : ∀ (s : Shared) (H : Hp) (C : Addr) (cl : List (Str × Addr)) (fp : List Addr), DTs (X.blk s H scope (compEnvC scope cl C X.env) fp) ifs gt)
    (hi1 : ∀ (s : Shared) (H : Hp) (C : Addr) (cl : List (Str × Addr)) (fp : List Addr), DJ (X.blk s H scope (compEnvC scope cl C X.env) fp) tg1 iter1 fi1)
    (hg1 : ∀ (s : Shared) (H : Hp) (C : Addr) (cl : List (Str × Addr)) (fp : List Addr), DG (X.blk s H scope (compEnvC scope cl C X.env) fp) vg1 tg1 g1)
    (ht1 : ∀ (s : Shared) (H : Hp) (C : Addr) (cl : List (Str × Addr)) (fp : List Addr), DTs (X.blk s H scope (compEnvC scope cl C X.env) fp) ifs1 gt1)
    (he : ∀ (s : Shared) (H : Hp) (C : Addr) (cl : List (Str × Addr)) (fp : List Addr), DV (X.blk s H scope (compEnvC scope cl C X.env) fp) elt fv)
    (hv : ∀ i ∈ vg, i ∈ own.map (·.2) := by decide) (hv1 : ∀ i ∈ vg1, i ∈ vs1 := by decide) (hvv : ∀ i ∈ vs1, i ∈ own.map (·.2) := by decide)
    (hy : X.N[i]? = some y := by rfl) (hyl : X.env.scope.names.lookup y = some .local := by rfl)
    (hs : ∀ x, foldedSetIterable iter X.env x = pure x := by intro _; rfl) (hs1 : ∀ env x, foldedSetIterable iter1 env x = pure x := by intro _ _; rfl) :
    DS X (.Assign [.Name y py] (.ListComp elt [⟨tg, iter, ifs, 0⟩, ⟨tg1, iter1, ifs1, 0⟩] scope pos) spos) (sSet i (fLc2 fi g gt fi1 g1 gt1 fv (own.map (·.2)) vs1)) := by
  obtain ⟨wi, pi, hfi⟩ := hi
  refine ⟨_, ps_unl (ps_setLc2 hc hN hy hyl hsw pi ok hvv (fun s H C cl fp => (hg s H C cl fp).pg) (fun s H C cl fp => ht s H C cl fp) (fun s H C cl fp => hi1 s H C cl fp) (fun s H C cl fp => (hg1 s H C cl fp).pg) (fun s H C cl fp => ht1 s H C cl fp) (fun s H C cl fp => (he s H C cl fp).pe) hs hs1), fun B R w σ H ss E D o hw l => ?_⟩
  refine lc2_run (Q := fun v H' => D.nx (σ.set i (some v)) H') hv hv1 hvv hfi B R w σ H ss _ o hw fun v H' r ss' w' o' rr ex h => ?_
  obtain ⟨s2, w2, o2, e2, hk⟩ := set_ok o' rr h
  exact l.nx _ H' s2 w2 o2 (ex.trans e2) hk
end
end Vl
namespace Vl
open PySem PySem.Spec L2
open PyProof.Rows hiding St

/-! ### {k: v for x in xs if .. for y in ys if ..} : the machine's turns -/
abbrev two2 (kx vx t0 i0 t1 i1 : Expr) (c0 c1 : List Expr) (sc : Scope) (pos : Pos) : Expr := .DictComp kx vx [⟨t0, i0, c0, 0⟩, ⟨t1, i1, c1, 0⟩] sc pos
section
variable (kx vx t0 i0 t1 i1 : Expr) (c0 c1 : List Expr) (sc : Scope) (pos : Pos) (it : Value) (D : Addr) (env : Env)
abbrev tests (cs : List Expr) (env : Env) : Sem Bool := forIn cs true fun c r => if r = true then do let ok ← isTrue c env (eval c env); pure (ForInStep.yield ok) else pure (ForInStep.yield r)
theorem turn_out : compTurn (two2 kx vx t0 i0 t1 i1 c0 c1 sc pos) 0 it (.ref D) env = (do
      standAt i0.pos
      match ← pyNext it with
      | none => pure (.done .next)
      | some v => do
        letOwnedTupleGo t0 it v
        assign t0 env v
        let ok ← tests c0 env
        if ok then do
          let x ← eval i1 env
          standAt i1.pos
          let y ← foldedSetIterable i1 env x
          let z ← holding [y] (pyIter y)
          let _ ← runOwn (.compStart (two2 kx vx t0 i0 t1 i1 c0 c1 sc pos) 1 z (.ref D) env) env
          again (.compLoop (two2 kx vx t0 i0 t1 i1 c0 c1 sc pos) 0 it (.ref D) env)
        else again (.compLoop (two2 kx vx t0 i0 t1 i1 c0 c1 sc pos) 0 it (.ref D) env)) := by rfl
theorem turn_in : compTurn (two2 kx vx t0 i0 t1 i1 c0 c1 sc pos) 1 it (.ref D) env = (do
      standAt i1.pos
      match ← pyNext it with
      | none => pure (.done .next)
      | some v => do
        letOwnedTupleGo t1 it v
        assign t1 env v
        let ok ← tests c1 env
        if ok then do
          (do
            let kv ← eval kx env
            let vv ← holding [kv] (eval vx env)
            standAt { kx.pos with endLine := vx.pos.endLine, endCol := vx.pos.endCol }
            holding [kv, vv] (dictSet D kv vv))
          again (.compLoop (two2 kx vx t0 i0 t1 i1 c0 c1 sc pos) 1 it (.ref D) env)
        else again (.compLoop (two2 kx vx t0 i0 t1 i1 c0 c1 sc pos) 1 it (.ref D) env)) := by rfl
end
section
variable {P : Program} {w : World} {A : Around} {R : Result → Shared → Prop} {s : Shared} {kx vx t0 i0 t1 i1 : Expr} {c0 c1 : List Expr} {sc : Scope} {pos : Pos} {it : Value} {D : Addr} {env : Env}
/-- where an exception of the turn goes -/
abbrev nt (P : Program) (w : World) (A : Around) (env : Env) (R : Result → Shared → Prop) : Value → Shared → Prop := notedBy (model P w) A env fun e z => R (.error e) z
abbrev wq {α : Type} (P : Program) (w : World) (A : Around) (env : Env) (R : Result → Shared → Prop) (m : Sem α) (s : Shared) (k : α → Shared → Prop) : Prop := wpAny (model P w) A m k (nt P w A env R) s
theorem loop_out (hs : ∀ x, foldedSetIterable i1 env x = pure x) (I : Nat → Shared → Prop)
    (turn : ∀ n s, I n s → wq P w A env R (pyNext it) s fun r s1 => match r with
      | none => R (.ok .next) s1
      | some v => wq P w A env R (letOwnedTupleGo t0 it v) s1 fun _ s2 => wq P w A env R (assign t0 env v) s2 fun _ s3 => wq P w A env R (tests c0 env) s3 fun ok s4 =>
          if ok = true then wq P w A env R (eval i1 env) s4 fun x s5 => wq P w A env R (pyIter x) s5 fun z s6 =>
            codeAny (model P w) A (.compStart (two2 kx vx t0 i0 t1 i1 c0 c1 sc pos) 1 z (.ref D) env) (fun r s' => match r with | .ok _ => ∃ m, m < n ∧ I m s' | .error _ => False) s6
          else ∃ m, m < n ∧ I m s4) (n : Nat) (h : I n s) : codeAny (model P w) A (.compLoop (two2 kx vx t0 i0 t1 i1 c0 c1 sc pos) 0 it (.ref D) env) R s := by
  refine codeAny_loop rfl I (fun n s hI => ?_) n h
  show wpAny _ A ((compTurn (two2 kx vx t0 i0 t1 i1 c0 c1 sc pos) 0 it (.ref D) env).onRaise _) _ _ s
  refine wpAny_noted ?_
  rw [turn_out]
  refine wpAny_bind (wpAny_standAt (wpAny_bind (thn (turn n s hI) fun r s1 h1 => ?_)))
  cases r with
  | none => exact wpAny_pure h1
  | some v =>
    refine wpAny_bind (thn h1 fun _ s2 h2 => wpAny_bind (thn h2 fun _ s3 h3 => wpAny_bind (thn h3 fun ok s4 h4 => ?_)))
    cases ok with
    | false => exact wpAny_pure ⟨rfl, h4⟩
    | true =>
      refine wpAny_bind (thn h4 fun x s5 h5 => wpAny_bind (wpAny_standAt (wpAny_bind (wpAny_of_eq (hs x) (wpAny_bind (wpAny_holding (thn h5 fun z s6 h6 => ?_)))))))
      refine wpAny_bind (wpAny_runOwn ?_)
      rw [Around.mark_none]
      refine codeAny_mono h6 fun r s' hr => ?_
      cases r with
      | error e => exact hr.elim
      | ok f => exact wpAny_pure ⟨rfl, hr⟩
theorem loop_in (I : Nat → Shared → Prop)
    (turn : ∀ n s, I n s → wq P w A env R (pyNext it) s fun r s1 => match r with
      | none => R (.ok .next) s1
      | some v => wq P w A env R (letOwnedTupleGo t1 it v) s1 fun _ s2 => wq P w A env R (assign t1 env v) s2 fun _ s3 => wq P w A env R (tests c1 env) s3 fun ok s4 =>
          if ok = true then wq P w A env R (eval kx env) s4 fun kv s5 => wq P w A env R (eval vx env) s5 fun vv s6 => wq P w A env R (dictSet D kv vv) s6 fun _ s7 => ∃ m, m < n ∧ I m s7
          else ∃ m, m < n ∧ I m s4) (n : Nat) (h : I n s) : codeAny (model P w) A (.compLoop (two2 kx vx t0 i0 t1 i1 c0 c1 sc pos) 1 it (.ref D) env) R s := by
  refine codeAny_loop rfl I (fun n s hI => ?_) n h
  show wpAny _ A ((compTurn (two2 kx vx t0 i0 t1 i1 c0 c1 sc pos) 1 it (.ref D) env).onRaise _) _ _ s
  refine wpAny_noted ?_
  rw [turn_in]
  refine wpAny_bind (wpAny_standAt (wpAny_bind (thn (turn n s hI) fun r s1 h1 => ?_)))
  cases r with
  | none => exact wpAny_pure h1
  | some v =>
    refine wpAny_bind (thn h1 fun _ s2 h2 => wpAny_bind (thn h2 fun _ s3 h3 => wpAny_bind (thn h3 fun ok s4 h4 => ?_)))
    cases ok with
    | false => exact wpAny_pure ⟨rfl, h4⟩
    | true => exact wpAny_bind (wpAny_bind (thn h4 fun kv s5 h5 => wpAny_bind (wpAny_holding (thn h5 fun vv s6 h6 => wpAny_bind (wpAny_standAt (wpAny_holding (thn h6 fun _ s7 h7 => wpAny_pure ⟨rfl, h7⟩)))))))
theorem start_in (h0 : codeAny (model P w) A (.compLoop (two2 kx vx t0 i0 t1 i1 c0 c1 sc pos) 1 it (.ref D) env) R s)
    (h : wq P w A env R (pyIter it) s fun z s' => codeAny (model P w) A (.compLoop (two2 kx vx t0 i0 t1 i1 c0 c1 sc pos) 1 z (.ref D) env) R s') : codeAny (model P w) A (.compStart (two2 kx vx t0 i0 t1 i1 c0 c1 sc pos) 1 it (.ref D) env) R s := by
  refine codeAny_of_tree ?_
  show wpAny _ _ ((compStart (two2 kx vx t0 i0 t1 i1 c0 c1 sc pos) 1 it (.ref D) env).onRaise _) _ _ s
  refine wpAny_notedAt ?_
  unfold compStart
  refine wpAny_bind (wpAny_askSetting (wpAny_ite ?_))
  split
  · first
      | exact wpAny_pure ⟨rfl, h0⟩
      | exact wpAny_bind (wpAny_pure (wpAny_pure ⟨rfl, h0⟩))
  · first
      | exact wpAny_bind (wpAny_rule (wpAny_bind (wpAny_standAt (wpAny_bind (thn h fun z s' hz => wpAny_pure ⟨rfl, hz⟩)))))
      | (refine wpAny_bind (wpAny_rule ?_); show wpAny _ _ (standAt i1.pos >>= _) _ _ s; exact wpAny_bind (wpAny_standAt (wpAny_bind (thn h fun z s' hz => wpAny_pure ⟨rfl, hz⟩))))
end
end Vl
set_option maxHeartbeats 1000000
namespace Vl
open PySem PySem.Spec L2
open PyProof.Rows hiding St

section
variable {X : Cx}
/-- the words of {k: v for .. for ..}: D the new dict; vs the block's slots, vs1 those of the second target -/
def tDc2 (wi : TI) (g : TG) (tt : TT) (wi1 : TI) (g1 : TG) (tt1 : TT) (tk tv : TE) (vs vs1 : List Nat) : TE := fun σ H Q =>
  wi σ H fun J Ha => ∀ D, Ha D = none → ∃ W : Nat → Nat → Hp → Prop, (∃ m, W 0 m (L2.upd Ha D (.dK []))) ∧ ∀ i m Hb, W i m Hb →
    (J.stop i Hb ∧ Q (.ref D) Hb) ∨ (J.go i Hb ∧ ∃ Z : Hp → Prop, (∀ H', Z H' → ∃ m', m' < m ∧ W (i + 1) m' H') ∧ ∀ x Hc, J.yld i Hb x Hc →
      g x (wipe σ vs) Hc fun σ2 Hd => wipe σ2 vs = wipe σ vs ∧ tt σ2 Hd fun b He =>
        if b = true then wi1 σ2 He fun J1 Hf => ∃ W1 : Nat → Nat → Hp → Prop, (∃ m, W1 0 m Hf) ∧ ∀ j n Hg, W1 j n Hg →
          (J1.stop j Hg ∧ Z Hg) ∨ (J1.go j Hg ∧ ∃ Z1 : Hp → Prop, (∀ H', Z1 H' → ∃ n', n' < n ∧ W1 (j + 1) n' H') ∧ ∀ y Hh, J1.yld j Hg y Hh →
            g1 y (wipe σ2 vs1) Hh fun σ3 Hi => wipe σ3 vs1 = wipe σ2 vs1 ∧ tt1 σ3 Hi fun c Hj =>
              if c = true then tk σ3 Hj fun u Hk => tv σ3 Hk fun v Hl => ∃ kvs k, u = kV k ∧ Hl D = some (.dK kvs) ∧ kvs.length < sizeLine ∧ Z1 (L2.upd Hl D (.dK (putK kvs k v))) else Z1 Hj)
        else Z He)
abbrev BlkAll (X : Cx) (sc : Scope) (F : Cx → Prop) : Prop := ∀ (s : Shared) (H : Hp) (C : Addr) (cl : List (Str × Addr)) (fp : List Addr), F (X.blk s H sc (compEnvC sc cl C X.env) fp)
theorem dc2_core {ps : List (Addr × Obj)} {s : Shared} {σ : St} {H : Hp} {Q : VK} {kx vx t0 i0 t1 i1 : Expr} {c0 c1 : List Expr} {sc : Scope} {own : List (Str × Nat)} {vs1 : List Nat} {pos pos' : Pos} {wi wi1 : TI} {g g1 : TG} {tt tt1 : TT} {tk tv : TE} {use : Option (Value → Sem Unit)} {Qf : Value → Shared → Prop}
    (calm : X.calm = true) (nd : X.N.Nodup) (I : Inv X ps σ H s) (hi : PI X t0 i0 wi) (ok : BlkOk X.N X.env.scope sc own) (hv : ∀ i ∈ vs1, i ∈ own.map (·.2))
    (hg : BlkAll X sc fun Y => PG Y t0 g) (ht : BlkAll X sc fun Y => PTs Y c0 tt) (hk : BlkAll X sc fun Y => PE Y kx tk) (he : BlkAll X sc fun Y => PE Y vx tv) (hs : ∀ x, foldedSetIterable i0 X.env x = pure x)
    (hi1 : BlkAll X sc fun Y => PI Y t1 i1 wi1) (hg1 : BlkAll X sc fun Y => PG Y t1 g1) (ht1 : BlkAll X sc fun Y => PTs Y c1 tt1) (hs1 : ∀ env x, foldedSetIterable i1 env x = pure x)
    (h : tDc2 wi g tt wi1 g1 tt1 tk tv (own.map (·.2)) vs1 σ H Q)
    (post : ∀ D C s' m H', Inv X ps σ H' s' → Q (.ref D) H' → s'.heap.Ns C m → FpOk X ps H' C → compPost (model X.prog X.w) X.A X.xe use Qf (.ref D) C (.ok .next) s') :
    wpAny (model X.prog X.w) X.A (comprehension (two2 kx vx t0 i0 t1 i1 c0 c1 sc pos) sc X.env pos' newDict false (eval i0 X.env) use) Qf X.xe s := by
  have clos : ∀ y ∈ sc.names, y.2 = .free → ∃ c, X.env.cells.lookup y.1 = some c := fun y hy e => (ok.free y hy e).elim (fun z => I.ok.has _ (.inl z)) fun z => I.ok.has _ (.inr z)
  refine wpAny_comprehension_free (use := use) rfl hs (closure_ok clos) ok.kind (fun y hy e => (ok.uniq y hy).trans (by rw [e])) (thn (hi.run ps s σ H _ I h) fun _ _ hx => thn hx fun _ sa ha => ?_)
  obtain ⟨it, fp, tn, J, Ha, rfl, Ia, T, sta, fa, q⟩ := ha
  refine wpAny_newObj_type (newEnv_comp ?_)
  have nD : Ha sa.heap.objs.size = none := Ia.hok.fresh (Nat.le_refl _)
  obtain ⟨W, ⟨m0, w0⟩, turn⟩ := q _ nD
  generalize eD : sa.heap.objs.size = D at nD w0 turn
  generalize esb : ({ sa with heap := sa.heap.push { cls := .type "dict", data := .dict #[] } } : Shared) = sb
  have hsb : sb.heap = sa.heap.push { cls := .type "dict", data := .dict #[] } := by rw [← esb]
  have Ib : Inv X ps σ (L2.upd Ha D (.dK [])) sb := by
    subst esb eD
    exact Ia.laid (t' := sa.toks) (fun _ _ e => Heap.get?_push_of_some _ e) (Nat.le_refl _) (dk_empty sa.heap Ia.big)
  have keepb : ∀ b o, sa.heap.get? b = some o → sb.heap.get? b = some o := fun b o e => by rw [hsb]; exact Heap.get?_push_of_some _ e
  have inb : ∀ b ∈ fp, b < D := fun b hb => by
    obtain ⟨o, e, _⟩ := T.obj _ _ sta b hb
    rw [← eD]; exact Heap.lt_size e
  have fb : ∀ b ∈ fp, FpOk X ps (L2.upd Ha D (.dK [])) b ∧ b < sb.heap.objs.size := fun b hb => by
    refine ⟨⟨(L2.upd_ne (Nat.ne_of_lt (inb b hb))).trans (fa b hb).1, (fa b hb).2⟩, ?_⟩
    rw [hsb, Heap.size_push, eD]; exact Nat.lt_succ_of_lt (inb b hb)
  have stb : tn 0 sb.heap := T.keep _ _ _ sta fun b _ o e => keepb b o e
  have Ic := block_start Ib ok nd fb
  have pg := hg sb (L2.upd Ha D (.dK [])) sb.heap.objs.size (cellsFrom (sb.heap.objs.size + 1) sc.names (cloFrom X.env.cells sc.names [])) fp
  have pt := ht sb (L2.upd Ha D (.dK [])) sb.heap.objs.size (cellsFrom (sb.heap.objs.size + 1) sc.names (cloFrom X.env.cells sc.names [])) fp
  have pk := hk sb (L2.upd Ha D (.dK [])) sb.heap.objs.size (cellsFrom (sb.heap.objs.size + 1) sc.names (cloFrom X.env.cells sc.names [])) fp
  have pv := he sb (L2.upd Ha D (.dK [])) sb.heap.objs.size (cellsFrom (sb.heap.objs.size + 1) sc.names (cloFrom X.env.cells sc.names [])) fp
  have qi := hi1 sb (L2.upd Ha D (.dK [])) sb.heap.objs.size (cellsFrom (sb.heap.objs.size + 1) sc.names (cloFrom X.env.cells sc.names [])) fp
  have qg := hg1 sb (L2.upd Ha D (.dK [])) sb.heap.objs.size (cellsFrom (sb.heap.objs.size + 1) sc.names (cloFrom X.env.cells sc.names [])) fp
  have qt := ht1 sb (L2.upd Ha D (.dK [])) sb.heap.objs.size (cellsFrom (sb.heap.objs.size + 1) sc.names (cloFrom X.env.cells sc.names [])) fp
  show codeAny _ _ (.compStart (two2 kx vx t0 i0 t1 i1 c0 c1 sc pos) 0 (.ref it) (.ref D) (compEnvC sc (cellsFrom (sb.heap.objs.size + 1) sc.names (cloFrom X.env.cells sc.names [])) sb.heap.objs.size X.env)) (compPost (model X.prog X.w) X.A X.xe use Qf (.ref D) sb.heap.objs.size) { sb with heap := pushCells (sb.heap.push { cls := .type "dict", data := .dict #[] }) sc.names }
  generalize ece : compEnvC sc (cellsFrom (sb.heap.objs.size + 1) sc.names (cloFrom X.env.cells sc.names [])) sb.heap.objs.size X.env = ce at Ic pg pt pk pv qi qg qt ⊢
  have lce : ce.locals = sb.heap.objs.size := by rw [← ece]; rfl
  have nfp : ∀ b ∈ fp, (L2.upd Ha D (.dK [])) b = none := fun b hb => (fb b hb).1.1
  generalize L2.upd Ha D (.dK []) = Hb at Ib Ic pg pt pk pv qi qg qt w0 nfp fb
  generalize esc : ({ sb with heap := pushCells (sb.heap.push { cls := .type "dict", data := .dict #[] }) sc.names } : Shared) = sd at Ic ⊢
  have stc : tn 0 sd.heap := T.keep _ _ _ stb fun b _ o e => by rw [← esc]; exact pushCells_keeps _ _ _ _ (Heap.get?_push_of_some _ e)
  have stand : ∀ {τ : St} {H' : Hp} {z : Shared}, Inv (X.blk sb Hb sc ce fp) [] τ H' z → (∀ b ∈ fp, H' b = none) → ∀ b ∈ fp, FpOk (X.blk sb Hb sc ce fp) [] H' b :=
    fun {τ H' z} I' hn b hb => ⟨hn b hb, (I'.ok.exf b hb).1, I'.ok.exfs b hb, .inl hb, fun x c e => (I'.ok.exf b hb).2 x c e, fun p hp => nomatch hp⟩
  let Lp : Nat → Shared → Prop := fun n z => ∃ i H', Inv (X.blk sb Hb sc ce fp) [] (wipe σ (own.map (·.2))) H' z ∧ tn i z.heap ∧ (∀ b ∈ fp, H' b = none) ∧ W i n H'
  have loop : codeAny (model X.prog X.w) X.A (.compLoop (two2 kx vx t0 i0 t1 i1 c0 c1 sc pos) 0 (.ref it) (.ref D) ce) (compPost (model X.prog X.w) X.A X.xe use Qf (.ref D) sb.heap.objs.size) sd := by
    refine loop_out (hs1 ce) Lp ?_ m0 ⟨0, Hb, Ic, stc, nfp, w0⟩
    rintro n z ⟨i, Hz, Iz, stz, nz, wz⟩
    rcases turn i n Hz wz with ⟨stop, qq⟩ | ⟨go, Z, hZ, step⟩
    · refine thnF (T.done (X.blk sb Hb sc ce fp) rfl rfl rfl calm i [] z _ Hz (fun _ _ => False) Iz (stand Iz nz) stz stop) fun r z2 ⟨hr, I2⟩ => ?_
      subst hr
      have I3 : Inv X ps σ Hz z2 := Ib.call' (ch := fp) I2.os I2.base I2.hok I2.bare fun b hb => by
        obtain ⟨⟨_, f1, f2, f3, f4, f5⟩, _⟩ := fb b hb
        exact ⟨f3, f1, f4, f5⟩
      have free : Hz ce.locals = none := I2.free
      obtain ⟨m, nsm, _⟩ := I2.loc
      have nsm : z2.heap.Ns ce.locals m := nsm
      rw [lce] at free nsm
      exact post D sb.heap.objs.size z2 m Hz I3 qq nsm (Ib.fpOk (Nat.le_refl _) free)
    · refine thnF (T.item (X.blk sb Hb sc ce fp) rfl rfl rfl calm i [] z _ Hz (fun _ _ => False) Iz (stand Iz nz) stz go) fun r z2 ⟨u, hr, h2⟩ => ?_
      subst hr
      refine thnF h2 fun _ z3 ⟨x, H3, I3, r3, y3, st3, n3⟩ => ?_
      refine thnF (pg.run _ z3 _ H3 x u _ (I3.pinned (stand I3 n3) (T.obj _ _ st3)) r3 (step x H3 y3)) fun _ z4 ⟨σ4, H4, I4, e4, q4⟩ => ?_
      refine thnF (pt.run _ z4 σ4 H4 _ I4 q4) fun b z5 ⟨H5, I5, q5⟩ => ?_
      -- from any slots that know what stood at the turn's start
      have back : ∀ {τ : St} {z' : Shared} {H' : Hp}, Inv (X.blk sb Hb sc ce fp) ([] ++ pinsAt fp z3.heap) τ H' z' → (wipe σ (own.map (·.2))).length = τ.length → (∀ (j : Nat) v, (wipe σ (own.map (·.2)))[j]? = some (some v) → τ[j]? = some (some v)) → Z H' → ∃ m, m < n ∧ Lp m z' := fun {τ z' H'} I' hl hkn hz => by
        obtain ⟨m, lt, wm⟩ := hZ H' hz
        have pin : ∀ b ∈ fp, ∀ o, z3.heap.get? b = some o → z'.heap.get? b = some o ∧ H' b = none := fun b hb o e => by
          obtain ⟨p1, p2, _⟩ := I'.pin (b, o) (List.mem_append_right _ (List.mem_append_right _ (mem_pinsAt hb e)))
          exact ⟨p1, p2⟩
        refine ⟨m, lt, i + 1, H', (I'.unpinned (pins := [])).weak hl hkn, T.keep _ _ _ st3 fun b hb o e => (pin b hb o e).1, fun b hb => ?_, wm⟩
        obtain ⟨o, e, _⟩ := T.obj _ _ st3 b hb
        exact (pin b hb o e).2
      have l4 : (wipe σ (own.map (·.2))).length = σ4.length := by rw [← e4]; exact wipe_length _ _
      have k4 : ∀ (j : Nat) v, (wipe σ (own.map (·.2)))[j]? = some (some v) → σ4[j]? = some (some v) ∧ j ∉ own.map (·.2) := fun j v e => wipe_some (by rw [e4]; exact e)
      cases b with
      | false => exact iteF (back I5 l4 (fun j v e => (k4 j v e).1) (by simpa using q5))
      | true =>
        refine iteT ?_
        rw [if_pos rfl] at q5
        refine thnF (qi.run _ z5 σ4 H5 _ I5 q5) fun _ z6 hx => thnF hx fun _ z7 h7 => ?_
        obtain ⟨it1, fp1, tn1, J1, H7, rfl, I7, T1, st7, f7, W1, ⟨m1, w1⟩, turn1⟩ := h7
        have stand1 : ∀ {H' : Hp}, (∀ b ∈ fp1, H' b = none) → ∀ b ∈ fp1, FpOk (X.blk sb Hb sc ce fp) ([] ++ pinsAt fp z3.heap) H' b := fun hn b hb => ⟨hn b hb, (f7 b hb).2⟩
        let Lq : Nat → Shared → Prop := fun n' z' => ∃ j H', Inv (X.blk sb Hb sc ce fp) ([] ++ pinsAt fp z3.heap) (wipe σ4 vs1) H' z' ∧ tn1 j z'.heap ∧ (∀ b ∈ fp1, H' b = none) ∧ W1 j n' H'
        have inner : codeAny (model X.prog X.w) X.A (.compLoop (two2 kx vx t0 i0 t1 i1 c0 c1 sc pos) 1 (.ref it1) (.ref D) ce) (fun r z' => match r with | .ok _ => ∃ m, m < n ∧ Lp m z' | .error _ => False) z7 := by
          refine loop_in Lq ?_ m1 ⟨0, H7, I7.weak (wipe_length _ _) (fun j v e => (wipe_some e).1), st7, fun b hb => (f7 b hb).1, w1⟩
          rintro k za ⟨j, HA, IA, sA, nA, wA⟩
          rcases turn1 j k HA wA with ⟨stop1, hz1⟩ | ⟨go1, Z1, hZ1, step1⟩
          · refine thnF (T1.done (X.blk sb Hb sc ce fp) rfl rfl rfl calm j _ za (wipe σ4 vs1) HA (fun _ _ => False) IA (stand1 nA) sA stop1) fun r zb ⟨hr, IB⟩ => ?_
            subst hr
            refine back IB (l4.trans (wipe_length σ4 vs1).symm) (fun j v e => ?_) hz1
            obtain ⟨k1, k2⟩ := k4 j v e
            exact (wipe_out fun hj => k2 (hv j hj)).trans k1
          · refine thnF (T1.item (X.blk sb Hb sc ce fp) rfl rfl rfl calm j _ za (wipe σ4 vs1) HA (fun _ _ => False) IA (stand1 nA) sA go1) fun r zb ⟨u1, hr, hb1⟩ => ?_
            subst hr
            refine thnF hb1 fun _ zc ⟨y, HC, IC, rC, yC, sC, nC⟩ => ?_
            refine thnF (qg.run _ zc (wipe σ4 vs1) HC y u1 _ (IC.pinned (stand1 nC) (T1.obj _ _ sC)) rC (step1 y HC yC)) fun _ zd ⟨σd, HD, ID, eD2, qD⟩ => ?_
            refine thnF (qt.run _ zd σd HD _ ID qD) fun c ze ⟨HE, IE, qE⟩ => ?_
            have again1 : ∀ {z' : Shared} {H' : Hp}, Inv (X.blk sb Hb sc ce fp) (([] ++ pinsAt fp z3.heap) ++ pinsAt fp1 zc.heap) σd H' z' → Z1 H' → ∃ m, m < k ∧ Lq m z' := fun {z' H'} I' hz => by
              obtain ⟨m, lt, wm⟩ := hZ1 H' hz
              have pin : ∀ b ∈ fp1, ∀ o, zc.heap.get? b = some o → z'.heap.get? b = some o ∧ H' b = none := fun b hb o e => by
                obtain ⟨p1, p2, _⟩ := I'.pin (b, o) (List.mem_append_right _ (List.mem_append_right _ (mem_pinsAt hb e)))
                exact ⟨p1, p2⟩
              refine ⟨m, lt, j + 1, H', I'.unpinned.weak (by rw [← eD2]; exact wipe_length _ _) (fun j v e => (wipe_some (by rw [eD2]; exact e)).1), T1.keep _ _ _ sC fun b hb o e => (pin b hb o e).1, fun b hb => ?_, wm⟩
              obtain ⟨o, e, _⟩ := T1.obj _ _ sC b hb
              exact (pin b hb o e).2
            cases c with
            | false => exact iteF (again1 IE (by simpa using qE))
            | true =>
              refine iteT ?_
              rw [if_pos rfl] at qE
              refine thnF (pk.run _ ze σd HE _ IE qE) fun u2 zf ⟨yk, HF, IF, rF, qF⟩ => ?_
              refine thnF (pv.run _ zf σd HF _ IF qF) fun v2 zg ⟨yv, HG, IG, rG, kvs, kk, ek, dG, lG, hz⟩ => ?_
              subst ek
              exact d_dictSet (X := X.blk sb Hb sc ce fp) IG dG lG rF rG fun zh IH => again1 IH hz
        exact start_in inner (T1.self X.A 0 _ _ _ st7 inner)
  exact codeAny_compStart_dict loop (T.self X.A 0 _ _ _ stc loop)
end
end Vl
set_option maxHeartbeats 1000000
namespace Vl
open PySem PySem.Spec L2
open PyProof.Rows hiding St

section
variable {X : Cx} {kx vx t0 i0 t1 i1 : Expr} {c0 c1 : List Expr} {sc : Scope} {pos : Pos}
theorem pe_dc2 {own : List (Str × Nat)} {vs1 : List Nat} {wi wi1 : TI} {g g1 : TG} {tt tt1 : TT} {tk tv : TE} (calm : X.calm = true) (nd : X.N.Nodup) (hi : PI X t0 i0 wi) (ok : BlkOk X.N X.env.scope sc own) (hv : ∀ i ∈ vs1, i ∈ own.map (·.2))
    (hg : BlkAll X sc fun Y => PG Y t0 g) (ht : BlkAll X sc fun Y => PTs Y c0 tt) (hi1 : BlkAll X sc fun Y => PI Y t1 i1 wi1) (hg1 : BlkAll X sc fun Y => PG Y t1 g1) (ht1 : BlkAll X sc fun Y => PTs Y c1 tt1) (hk : BlkAll X sc fun Y => PE Y kx tk) (he : BlkAll X sc fun Y => PE Y vx tv)
    (hs : ∀ x, foldedSetIterable i0 X.env x = pure x) (hs1 : ∀ env x, foldedSetIterable i1 env x = pure x) : PE X (.DictComp kx vx [⟨t0, i0, c0, 0⟩, ⟨t1, i1, c1, 0⟩] sc pos) (tDc2 wi g tt wi1 g1 tt1 tk tv (own.map (·.2)) vs1) := by
  refine ⟨fun ps s σ H Q I h => ?_⟩
  rw [arm_eval_DictComp]
  refine dc2_core calm nd I hi ok hv hg ht hk he hs hi1 hg1 ht1 hs1 h fun D C z m H' I' q hn ⟨f0, f1, _, f3, f4, f5⟩ => ⟨m, hn, fun z2 sb => ?_⟩
  exact ⟨.ref D, H', I'.turned (t' := z.toks) (fun b o hb e => (sb.2 b hb).trans e) f0 f1 f3 f4 f5, rfl, q⟩
end
def compD2 (g : WG) (gt : WT) (fi1 : WI) (g1 : WG) (gt1 : WT) (fk fe : WV) (vs vs1 : List Nat) : List D → List (Key × D) → SS → (List (Key × D) → SS → Prop) → Prop
  | [], acc, s, K => K acc s
  | d :: r, acc, s, K => g d s fun s1 => gt s1 fun b s2 => if b = true then fi1 s2 fun ds1 s3 => compD g1 gt1 fk fe vs1 ds1 acc (wipeS vs1 s3) fun acc' s4 => compD2 g gt fi1 g1 gt1 fk fe vs vs1 r acc' (wipeS vs s4) K
      else compD2 g gt fi1 g1 gt1 fk fe vs vs1 r acc (wipeS vs s2) K
def fDc2 (fi : WI) (g : WG) (gt : WT) (fi1 : WI) (g1 : WG) (gt1 : WT) (fk fe : WV) (vs vs1 : List Nat) : WE := fun ss G => fi ss fun ds s => compD2 g gt fi1 g1 gt1 fk fe vs vs1 ds [] (wipeS vs s) fun acc s' => G (.new (.dic acc)) (unwS s s' vs)
theorem dc2_run {X : Cx} {wi : TI} {fi fi1 : WI} {g g1 : WG} {gt gt1 : WT} {fk fe : WV} {vs vs1 vg vg1 : List Nat} (hv : ∀ i ∈ vg, i ∈ vs) (hv1 : ∀ i ∈ vg1, i ∈ vs1) (hvv : ∀ i ∈ vs1, i ∈ vs)
    (hfi : ∀ (B : Hp) (R : Addr → Prop) (w : Wd) (σ : St) (H : Hp) (ss : SS) (G : List D → SS → Prop) (Q : It → Hp → Prop), Ok B R w σ H ss → fi ss G →
      (∀ J H' ds ss' w' B1 R1, Ok B1 R1 w' σ H' ss' → Ext w w' → Back X B R B1 R1 w' → Runs B1 R1 w' J ds → G ds ss' → Q J H') → wi σ H Q)
    (B : Hp) (R : Addr → Prop) (w : Wd) (σ : St) (H : Hp) (ss : SS) (G : Re → SS → Prop) (Q : VK) (o : Ok B R w σ H ss) (hw : fDc2 fi g gt fi1 g1 gt1 fk fe vs vs1 ss G)
    (hq : ∀ v H' r ss' w', Ok B R w' σ H' ss' → RepR B R w' σ H' ss' r v → Ext w w' → G r ss' → Q v H') : tDc2 wi (rdG vg g) (rdT gt) (rdJ fi1) (rdG vg1 g1) (rdT gt1) (rdV fk) (rdV fe) vs vs1 σ H (fun v H' => Unl X (Q v) H') := by
  refine hfi B R w σ H ss _ _ o hw fun J H1 ds s1 w1 B1 R1 o1 e1 bk runs h1 p hp => ?_
  obtain ⟨pF, pB, pR, pc, po⟩ := o1.fresh hp
  have oA := (o1.wiped vs).apart (u := .dK []) hp
  let K := fun (acc : List (Key × D)) s' => G (.new (.dic acc)) (unwS s1 s' vs)
  let W := fun (j : Nat) (H2 : Hp) => ∃ us acc ss' w', Ok (L2.upd B1 p (.dK us)) (fun a => R1 a ∨ a = p) w' (wipe σ vs) H2 ss' ∧ Ext w1 w' ∧ RepK w' acc us ∧ compD2 g gt fi1 g1 gt1 fk fe vs vs1 (ds.drop j) acc ss' K
  refine ⟨fun i m H2 => m = ds.length - i ∧ i ≤ ds.length ∧ W i H2, ⟨ds.length, by simp, Nat.zero_le _, [], [], _, w1, oA, .refl w1, rfl, h1⟩, ?_⟩
  rintro i m H2 ⟨rfl, hi, us, acc, s2, w2, o2, e2, ra, h2⟩
  have hB : ∀ b x, B1 b = some x → H2 b = some x := fun b x h => o2.bs b x (by rw [L2.upd_ne (fun z => by rw [z, pB] at h; cases h)]; exact h)
  obtain ⟨go, stop⟩ := runs _ _ w2 _ H2 s2 hB o2 e2
  by_cases hlt : i < ds.length
  · obtain ⟨g1', g2⟩ := go i hlt
    refine .inr ⟨g1', W (i + 1), fun H' h => ⟨ds.length - (i + 1), by omega, rfl, hlt, h⟩, fun x H3 y => ?_⟩
    obtain ⟨d, w3, hd, o3, e3, r3⟩ := g2 x H3 y
    have hdrop : ds.drop i = d :: ds.drop (i + 1) := by
      rw [List.drop_eq_getElem_cons hlt]
      rw [List.getElem?_eq_getElem hlt] at hd
      rw [Option.some.inj hd]
    rw [hdrop] at h2
    refine ⟨_, _, w3, s2, d, _, o3, r3, h2, fun σ4 H4 s4 w4 o4 e4 q4 h4 => ⟨by rw [q4 vs hv]; exact wipe_wipe σ vs, ?_⟩⟩
    have q4' : wipe σ4 vs = wipe σ vs := by rw [q4 vs hv]; exact wipe_wipe σ vs
    refine ⟨_, _, w4, s4, _, o4, h4, fun b H5 s5 w5 o5 e5 h5 => ?_⟩
    have e15 := e2.trans (e3.trans (e4.trans e5))
    have ra5 := ra.ext (e3.trans (e4.trans e5))
    cases b with
    | false =>
      refine iteF ⟨us, acc, _, w5, ?_, e15, ra5, h5⟩
      have := o5.wiped vs
      rw [q4'] at this
      exact this
    | true =>
      refine iteT ⟨_, _, w5, s5, _, o5, h5, fun J1 H6 ds1 s6 w6 o6 e6 runs1 h6 => ?_⟩
      let K1 := fun (acc' : List (Key × D)) s4 => compD2 g gt fi1 g1 gt1 fk fe vs vs1 (ds.drop (i + 1)) acc' (wipeS vs s4) K
      let W1 := fun (j : Nat) (H7 : Hp) => ∃ us acc ss' w', Ok (L2.upd B1 p (.dK us)) (fun a => R1 a ∨ a = p) w' (wipe σ4 vs1) H7 ss' ∧ Ext w6 w' ∧ RepK w' acc us ∧ compD g1 gt1 fk fe vs1 (ds1.drop j) acc ss' K1
      refine ⟨fun j m H7 => m = ds1.length - j ∧ j ≤ ds1.length ∧ W1 j H7, ⟨ds1.length, by simp, Nat.zero_le _, us, acc, _, w6, o6.wiped vs1, .refl w6, ra5.ext e6, h6⟩, ?_⟩
      rintro j m H7 ⟨rfl, hj, us7, acc7, s7, w7, o7, e7, ra7, h7⟩
      obtain ⟨go1, stop1⟩ := runs1 _ _ w7 _ H7 s7 (fun _ _ h => by cases h) o7 e7
      by_cases hlt1 : j < ds1.length
      · obtain ⟨g3, g4⟩ := go1 j hlt1
        refine .inr ⟨g3, W1 (j + 1), fun H' h => ⟨ds1.length - (j + 1), by omega, rfl, hlt1, h⟩, fun x1 H8 y1 => ?_⟩
        obtain ⟨d1, w8, hd1, o8, e8, r8⟩ := g4 x1 H8 y1
        have hdrop1 : ds1.drop j = d1 :: ds1.drop (j + 1) := by
          rw [List.drop_eq_getElem_cons hlt1]
          rw [List.getElem?_eq_getElem hlt1] at hd1
          rw [Option.some.inj hd1]
        rw [hdrop1] at h7
        refine ⟨_, _, w8, s7, d1, _, o8, r8, h7, fun σ9 H9 s9 w9 o9 e9 q9 h9 => ⟨by rw [q9 vs1 hv1, wipe_wipe], ?_⟩⟩
        have q9' : wipe σ9 vs1 = wipe σ4 vs1 := by rw [q9 vs1 hv1, wipe_wipe]
        refine ⟨_, _, w9, s9, _, o9, h9, fun b H10 s10 w10 o10 e10 h10 => ?_⟩
        have e710 := e7.trans (e8.trans (e9.trans e10))
        have ra10 := ra7.ext (e8.trans (e9.trans e10))
        cases b with
        | false =>
          refine iteF ⟨us7, acc7, _, w10, ?_, e710, ra10, h10⟩
          have := o10.wiped vs1
          rw [q9'] at this
          exact this
        | true =>
          refine iteT ⟨_, _, w10, s10, _, o10, h10, fun yv H11 dy s11 w11 o11 r11 e11 h11 => ⟨_, _, w11, s11, _, o11, h11, fun zv H12 dz s12 w12 o12 r12 e12 h12 => ?_⟩⟩
          obtain ⟨k, hk, hz, h12⟩ := h12
          refine ⟨us7, k, keyOf_rep hk r11, o12.bs p _ L2.upd_same, by rw [ra7.length]; exact hz, putK us7 k zv, putD acc7 k dz, _, w12, ?_, e710.trans (e11.trans e12), (ra10.ext (e11.trans e12)).put k r12, h12⟩
          have := (o12.wiped vs1).bump (u' := .dK (putK us7 k zv)) (.inr rfl)
          rw [q9'] at this
          exact this
      · have e : ds1.drop j = [] := List.drop_eq_nil_of_le (by omega)
        rw [e] at h7
        have h7 : K1 acc7 s7 := h7
        refine .inl ⟨stop1 j (by omega), us7, acc7, _, w7, ?_, e15.trans (e6.trans e7), ra7, h7⟩
        have := o7.wiped vs
        rw [wipe_mem (σ := σ4) hvv, q4'] at this
        exact this
  · have e : ds.drop i = [] := List.drop_eq_nil_of_le (by omega)
    rw [e] at h2
    refine .inl ⟨stop i (by omega), ?_⟩
    have h2 : G (.new (.dic acc)) (unwS s1 s2 vs) := h2
    obtain ⟨o3, r3⟩ := (o1.unwiped o2 e2).given (c := .dic acc) pB pR ⟨us, o2.bs p _ L2.upd_same, ra⟩
    exact bk w2 σ H2 _ o3 e2 _ fun H'' o'' tr => hq _ H'' _ _ w2 o'' (tr _ _ r3) (e1.trans e2) h2
section
variable {X : Cx} {kx vx tg iter tg1 iter1 : Expr} {pos : Pos} {fi fi1 : WI} {g g1 : WG} {gt gt1 : WT} {fk fv : WV} {ifs ifs1 : List Expr} {scope : Scope} {vg vg1 : List Nat}
theorem de_dc2 (own : List (Str × Nat)) (vs1 : List Nat) (hc : X.calm = true) (hN : X.N.Nodup) (ok : BlkOk X.N X.env.scope scope own) (hi : DI X tg iter fi)
    (hg : BlkAll X scope fun Y => DG Y vg tg g) (ht : BlkAll X scope fun Y => DTs Y ifs gt) (hi1 : BlkAll X scope fun Y => DJ Y tg1 iter1 fi1) (hg1 : BlkAll X scope fun Y => DG Y vg1 tg1 g1) (ht1 : BlkAll X scope fun Y => DTs Y ifs1 gt1)
    (hk : BlkAll X scope fun Y => DV Y kx fk) (he : BlkAll X scope fun Y => DV Y vx fv) (hv : ∀ i ∈ vg, i ∈ own.map (·.2) := by decide) (hv1 : ∀ i ∈ vg1, i ∈ vs1 := by decide) (hvv : ∀ i ∈ vs1, i ∈ own.map (·.2) := by decide)
    (hs : ∀ x, foldedSetIterable iter X.env x = pure x := by intro _; rfl) (hs1 : ∀ env x, foldedSetIterable iter1 env x = pure x := by intro _ _; rfl) :
    DE X (.DictComp kx vx [⟨tg, iter, ifs, 0⟩, ⟨tg1, iter1, ifs1, 0⟩] scope pos) (fDc2 fi g gt fi1 g1 gt1 fk fv (own.map (·.2)) vs1) := by
  obtain ⟨wi, pi, hfi⟩ := hi
  refine ⟨_, pe_unl (pe_dc2 hc hN pi ok hvv (fun s H C cl fp => (hg s H C cl fp).pg) (fun s H C cl fp => ht s H C cl fp) (fun s H C cl fp => hi1 s H C cl fp) (fun s H C cl fp => (hg1 s H C cl fp).pg) (fun s H C cl fp => ht1 s H C cl fp) (fun s H C cl fp => (hk s H C cl fp).pe) (fun s H C cl fp => (he s H C cl fp).pe) hs hs1), fun B R w σ H ss G Q o hw hq => ?_⟩
  exact dc2_run hv hv1 hvv hfi B R w σ H ss G Q o hw hq
end
end Vl
set_option maxHeartbeats 1000000
namespace Vl
open PySem PySem.Spec L2
open PyProof.Rows hiding St

/-! ### y = {k: v for ..} -/
section
variable {X : Cx} {kx vx t0 i0 : Expr} {c0 : List Expr} {sc : Scope} {pos spos py : Pos} {y : Str} {i : Nat}
theorem swD_true {gs : List Comprehension} {l : Nat} {env : Env} (hk : env.scope.kind = .function) (hy : env.scope.names.lookup y = some .local) (hl : (py.line == pos.line) = true)
    (ha : (sc.names.any fun (n, k) => n == y && (k == .local || k == .cell)) = false) : swapsWith (.DictComp kx vx gs sc pos) (some (.Name y py)) l env = pure true := by
  have k1 : env.kindOf y = some .local := hy
  have k2 : env.blockKind = .function := by unfold Env.blockKind; rw [hk]; rfl
  unfold swapsWith
  simp only [k2, k1, ha, Expr.pos, hl]
  rfl
theorem ps_setDc {own : List (Str × Nat)} {wi : TI} {g : TG} {tt : TT} {tk tv : TE} (calm : X.calm = true) (nd : X.N.Nodup) (hy : X.N[i]? = some y) (hyl : X.env.scope.names.lookup y = some .local)
    (hsw : swapsWith (.DictComp kx vx [⟨t0, i0, c0, 0⟩] sc pos) (some (.Name y py)) spos.line X.env = pure true) (hi : PI X t0 i0 wi) (ok : BlkOk X.N X.env.scope sc own)
    (hg : BlkAll X sc fun Y => PG Y t0 g) (ht : BlkAll X sc fun Y => PTs Y c0 tt) (hk : BlkAll X sc fun Y => PE Y kx tk) (he : BlkAll X sc fun Y => PE Y vx tv) (hs : ∀ x, foldedSetIterable i0 X.env x = pure x) :
    PS X (.Assign [.Name y py] (.DictComp kx vx [⟨t0, i0, c0, 0⟩] sc pos) spos) (tAsg (tDc wi g tt tk tv (own.map (·.2))) (gName i)) := by
  refine ⟨fun ps s σ H D I h => ?_⟩
  rw [exec_Assign_Name_used _ _ _ _ hsw]
  refine wpAny_bind (wpAny_standAt (wpAny_bind ?_))
  show wpAny _ X.A (do let _ ← comprehension (.DictComp kx vx [⟨t0, i0, c0, 0⟩] sc pos) sc X.env (firstIterPos [⟨t0, i0, c0, 0⟩] pos) newDict false (eval i0 X.env) (some (assign (.Name y py) X.env))) _ _ s
  have h : tDc wi g tt tk tv (own.map (·.2)) σ H (fun x H1 => gName i x σ H1 D.nx) := h
  refine wpAny_bind (thn (dc_core (Qf := fun _ s' => SP X ps D .next s') calm nd I hi ok hg ht hk he hs h fun L C z m H' I' q hn ⟨f0, f1, f2, f3, f4, f5⟩ => ?_) fun _ s' hq => wpAny_pure (wpAny_pure hq))
  show wpAny _ _ (assign (.Name y py) X.env (.ref L)) _ _ _
  refine wpAny_assign_Name (store_ok2 (v := V.ref L) I' nd hy (.inl hyl) rfl (fun z2 I2 ⟨a, sb, ha⟩ => ?_) (.inr hyl))
  have ne : C ≠ a := ha.elim (fun e => by rw [e]; exact f1) fun e e' => f4 y a e e'.symm
  refine ⟨m, hn.sameBut sb ne, fun z3 sb3 => ⟨_, H', ?_, q⟩⟩
  exact I2.turned (t' := z2.toks) (fun b o hb e => (sb3.2 b hb).trans e) f0 f1 f3 f4 f5
theorem ds_setDc (own : List (Str × Nat)) {vg : List Nat} {fi : WI} {g : WG} {gt : WT} {fk fv : WV} (hc : X.calm = true) (hN : X.N.Nodup) (hsw : swapsWith (.DictComp kx vx [⟨t0, i0, c0, 0⟩] sc pos) (some (.Name y py)) spos.line X.env = pure true) (ok : BlkOk X.N X.env.scope sc own) (hi : DI X t0 i0 fi)
    (hg : BlkAll X sc fun Y => DG Y vg t0 g) (hv : ∀ i ∈ vg, i ∈ own.map (·.2)) (ht : BlkAll X sc fun Y => DTs Y c0 gt) (hk : BlkAll X sc fun Y => DV Y kx fk) (he : BlkAll X sc fun Y => DV Y vx fv)
    (hy : X.N[i]? = some y := by rfl) (hyl : X.env.scope.names.lookup y = some .local := by rfl) (hs : ∀ x, foldedSetIterable i0 X.env x = pure x := by intro _; rfl) :
    DS X (.Assign [.Name y py] (.DictComp kx vx [⟨t0, i0, c0, 0⟩] sc pos) spos) (sSet i (fDc fi g gt fk fv (own.map (·.2)))) := by
  obtain ⟨wi, pi, hfi⟩ := hi
  refine ⟨_, ps_unl (ps_setDc hc hN hy hyl hsw pi ok (fun s H C cl fp => (hg s H C cl fp).pg) (fun s H C cl fp => ht s H C cl fp) (fun s H C cl fp => (hk s H C cl fp).pe) (fun s H C cl fp => (he s H C cl fp).pe) hs), fun B R w σ H ss E D o hw l => ?_⟩
  refine dc_run (Q := fun v H' => D.nx (σ.set i (some v)) H') hv hfi B R w σ H ss _ o hw fun v H' r ss' w' o' rr ex h => ?_
  obtain ⟨s2, w2, o2, e2, hk⟩ := set_ok o' rr h
  exact l.nx _ H' s2 w2 o2 (ex.trans e2) hk
end
end Vl
namespace Vl
open PySem PySem.Spec L2
open PyProof.Rows hiding St

/-! ### a, b = x, y : what is new goes into the slots as it is -/
section
variable {B : Hp} {R : Addr → Prop} {w : Wd} {σ : St} {H : Hp} {ss : SS} {r0 : Re}
theorem Ok.holdS (ns : noSlo r0) (o : Ok B R w σ H ss) {v : V} (h : RepR B R w σ H ss r0 v) : ∃ (B' : Hp) (R' : Addr → Prop), Ok B' R' w σ H ss ∧ (∀ b, B' b = none → B b = none) ∧ (∀ a, R a → R' a) ∧
    ∀ (w2 : Wd) (σ2 : St) (H2 : Hp) (ss2 : SS), Ok B' R' w2 σ2 H2 ss2 → Ext w w2 → Ok B R w2 σ2 H2 ss2 ∧ RepR B R w2 σ2 H2 ss2 r0 v := by
  cases r0 with
  | val d => exact ⟨B, R, o, fun _ h => h, fun _ h => h, fun w2 σ2 H2 ss2 o2 e => ⟨o2, h.ext e⟩⟩
  | slo i => exact ns.elim
  | new c =>
    obtain ⟨p, rfl, x, h1, h2, h3, h4, h5⟩ := h
    obtain ⟨u, hu⟩ := x.there
    refine ⟨L2.upd B p u, fun a => R a ∨ a = p, ⟨o.le, fun b q e => ?_, fun a r => ?_, o.vl, fun i c e => ?_, o.oi, o.ce, o.cl, fun a m => ?_, o.cn, o.ln⟩, fun b z => ?_, fun a r => .inl r, fun w2 σ2 H2 ss2 o2 e => ⟨⟨o2.le, fun b q e => ?_, fun a r => o2.rs a (.inl r), o2.vl, fun i c e => ?_, o2.oi, o2.ce, o2.cl, fun a m => ?_, o2.cn, o2.ln⟩, ?_⟩⟩
    · by_cases z : b = p
      · subst z; rw [L2.upd_same] at e; cases e; exact hu
      · rw [L2.upd_ne z] at e; exact o.bs b q e
    · rcases r with r | rfl
      · exact o.rs a r
      · exact ⟨h1, h4, u, hu⟩
    · obtain ⟨a1, a2, a3, a4, a5, a6⟩ := o.ow i c e
      have ne := h5 i c e
      exact ⟨a1, a2, a3, by rw [L2.upd_ne ne]; exact a4, fun z => z.elim a5 ne, a6⟩
    · obtain ⟨a1, a2⟩ := o.cf a m
      exact ⟨a1, by rw [L2.upd_ne (fun z : a = p => h4 (z ▸ m))]; exact a2⟩
    · by_cases q : b = p
      · rw [q, L2.upd_same] at z; cases z
      · rw [L2.upd_ne q] at z; exact z
    · refine o2.bs b q ?_
      rw [L2.upd_ne (fun z => by rw [z, h2] at e; cases e)]; exact e
    · obtain ⟨a1, a2, a3, a4, a5, a6⟩ := o2.ow i c e
      have ne : w2.os i ≠ p := fun z => a5 (.inr z)
      exact ⟨a1, a2, a3, by rw [L2.upd_ne ne] at a4; exact a4, fun z => a5 (.inl z), a6⟩
    · obtain ⟨a1, a2⟩ := o2.cf a m
      refine ⟨a1, ?_⟩
      cases q : B a with
      | none => rfl
      | some x =>
        by_cases z : a = p
        · rw [z, h2] at q; cases q
        · rw [L2.upd_ne z, q] at a2; cases a2
    · obtain ⟨a1, a2, y, hy⟩ := o2.rs p (.inr rfl)
      have hp : H2 p = some u := o2.bs p u L2.upd_same
      refine ⟨p, rfl, x.ext e (hp.trans hu.symm), a1, h2, h3, a2, fun i c' q z => ?_⟩
      obtain ⟨_, _, _, _, a5, _⟩ := o2.ow i c' q
      exact a5 (.inr z)
end
/-- a slot's value is told, the rest stays -/
def prep (r : Re) (ss : SS) (k : Re → SS → Prop) : Prop := match r with
  | .slo j => fz (.slo j) ss fun d s => k (.val d) s
  | .val d => k (.val d) ss
  | .new c => k (.new c) ss
theorem prep_ok {B : Hp} {R : Addr → Prop} {w : Wd} {σ : St} {H : Hp} {ss : SS} (o : Ok B R w σ H ss) {r : Re} {v : V} (h : RepR B R w σ H ss r v) {k : Re → SS → Prop} (hk : prep r ss k) :
    ∃ r' ss' w', Ok B R w' σ H ss' ∧ Ext w w' ∧ RepR B R w' σ H ss' r' v ∧ noSlo r' ∧ k r' ss' := by
  cases r with
  | val d => exact ⟨_, ss, w, o, .refl w, h, trivial, hk⟩
  | new c => exact ⟨_, ss, w, o, .refl w, h, trivial, hk⟩
  | slo j =>
    obtain ⟨d, s2, w2, o2, e2, r2, hk⟩ := fz_ok o h (show fz (.slo j) ss fun d s => k (.val d) s from hk)
    exact ⟨.val d, s2, w2, o2, e2, r2, trivial, hk⟩
def sParO (i j : Nat) (fa fb : WE) : WS := fun E ss => fa ss fun ra s => prep ra s fun ra s => fb s fun rb s => prep rb s fun rb s => setS j rb s fun s => setS i ra s E.nx
section
variable {X : Cx} {a b c : Expr} {fa fb fc : WE} {pos pt pt2 px py pz : Pos} {kt k2} {x y z : Str}
theorem ds_parO (i j : Nat) (hN : X.N.Nodup) (ha : DE X a fa) (hb : DE X b fb) (hc : X.calm = true := by rfl) (hi : X.N[i]? = some x := by rfl) (hj : X.N[j]? = some y := by rfl) (hij : i ≠ j := by decide)
    (hx : X.env.scope.names.lookup x = some .local := by rfl) (hy : X.env.scope.names.lookup y = some .local := by rfl)
    (hw : swappedStores [.Tuple [.Name x px, .Name y py] kt pt] (.Tuple [a, b] k2 pt2) X.env = pure (some [x, y]) := by rfl)
    (hs : swapsWithSole [.Tuple [.Name x px, .Name y py] kt pt] (.Tuple [a, b] k2 pt2) pos.line X.env = pure false := by rfl)
    (s1 : starEach [a, b] X.env = (false, eval a X.env) :: starEach [b] X.env := by rfl) (s2 : starEach [b] X.env = (false, eval b X.env) :: starEach [] X.env := by rfl) :
    DS X (.Assign [.Tuple [.Name x px, .Name y py] kt pt] (.Tuple [a, b] k2 pt2) pos) (sParO i j fa fb) := by
  obtain ⟨ta, pa, ka⟩ := ha
  obtain ⟨tb, pb, kb⟩ := hb
  refine ⟨_, ps_par hc hN hi hj hij hx hy (pa_cons pa (pa_cons pb pa_nil s2) s1) hw hs, fun B R w σ H ss E D o hw l => ka B R w σ H ss _ _ o hw fun v H1 ra sa wa oa rra ea h1 => ?_⟩
  obtain ⟨ra, s1, w1, o1, e1, r1, n1, h1⟩ := prep_ok oa rra h1
  obtain ⟨B', R', o1', hB, hR, back⟩ := o1.holdS n1 r1
  refine kb B' R' w1 σ H1 s1 _ _ o1' h1 fun u H2 rb sb wb ob rrb eb h2 => ?_
  obtain ⟨rb, s2, w2, o2, e2, r2, n2, h2⟩ := prep_ok ob rrb h2
  obtain ⟨s3, w3, o3, e3, h3⟩ := set_ok o2 r2 h2
  obtain ⟨o3', r3'⟩ := back w3 _ H2 s3 o3 (eb.trans (e2.trans e3))
  obtain ⟨s4, w4, o4, e4, h4⟩ := set_ok o3' r3' h3
  refine ⟨v, u, rfl, ?_⟩
  rw [List.set_comm _ _ hij]
  exact l.nx _ H2 s4 w4 o4 (ea.trans (e1.trans (eb.trans (e2.trans (e3.trans e4))))) h4
def sParO3 (i j n : Nat) (fa fb fc : WE) : WS := fun E ss => fa ss fun ra s => prep ra s fun ra s => fb s fun rb s => prep rb s fun rb s => fc s fun rc s => prep rc s fun rc s => setS n rc s fun s => setS j rb s fun s => setS i ra s E.nx
theorem ds_parO3 (i j n : Nat) (hN : X.N.Nodup) (ha : DE X a fa) (hb : DE X b fb) (hcc : DE X c fc) (hc : X.calm = true := by rfl) (hi : X.N[i]? = some x := by rfl) (hj : X.N[j]? = some y := by rfl) (hn : X.N[n]? = some z := by rfl) (hij : i ≠ j := by decide) (hil : i ≠ n := by decide) (hjl : j ≠ n := by decide)
    (hx : X.env.scope.names.lookup x = some .local := by rfl) (hy : X.env.scope.names.lookup y = some .local := by rfl) (hz : X.env.scope.names.lookup z = some .local := by rfl)
    (hw : swappedStores [.Tuple [.Name x px, .Name y py, .Name z pz] kt pt] (.Tuple [a, b, c] k2 pt2) X.env = pure (some [x, y, z]) := by rfl)
    (hs : swapsWithSole [.Tuple [.Name x px, .Name y py, .Name z pz] kt pt] (.Tuple [a, b, c] k2 pt2) pos.line X.env = pure false := by rfl)
    (s1 : starEach [a, b, c] X.env = (false, eval a X.env) :: starEach [b, c] X.env := by rfl) (s2 : starEach [b, c] X.env = (false, eval b X.env) :: starEach [c] X.env := by rfl) (s3 : starEach [c] X.env = (false, eval c X.env) :: starEach [] X.env := by rfl) :
    DS X (.Assign [.Tuple [.Name x px, .Name y py, .Name z pz] kt pt] (.Tuple [a, b, c] k2 pt2) pos) (sParO3 i j n fa fb fc) := by
  obtain ⟨ta, pa, ka⟩ := ha
  obtain ⟨tb, pb, kb⟩ := hb
  obtain ⟨tc, pc, kc⟩ := hcc
  refine ⟨_, ps_par3 hc hN hi hj hn hij hil hjl hx hy hz (pa_cons pa (pa_cons pb (pa_cons pc pa_nil s3) s2) s1) hw hs, fun B R w σ H ss E D o hw l => ka B R w σ H ss _ _ o hw fun v H1 ra sa wa oa rra ea h1 => ?_⟩
  obtain ⟨ra, s1, w1, o1, e1, r1, n1, h1⟩ := prep_ok oa rra h1
  obtain ⟨B', R', o1', hB, hR, back⟩ := o1.holdS n1 r1
  refine kb B' R' w1 σ H1 s1 _ _ o1' h1 fun u H2 rb sb wb ob rrb eb h2 => ?_
  obtain ⟨rb, s2, w2, o2, e2, r2, n2, h2⟩ := prep_ok ob rrb h2
  obtain ⟨B2, R2, o2', hB2, hR2, back2⟩ := o2.holdS n2 r2
  refine kc B2 R2 w2 σ H2 s2 _ _ o2' h2 fun u3 H3 rc sc wc oc rrc ec h3 => ?_
  obtain ⟨rc, s3, w3, o3, e3, r3, n3, h3⟩ := prep_ok oc rrc h3
  obtain ⟨s4, w4, o4, e4, h4⟩ := set_ok o3 r3 h3
  obtain ⟨o4', r4'⟩ := back2 w4 _ H3 s4 o4 (ec.trans (e3.trans e4))
  obtain ⟨s5, w5, o5, e5, h5⟩ := set_ok o4' r4' h4
  obtain ⟨o5', r5'⟩ := back w5 _ H3 s5 o5 (eb.trans (e2.trans (ec.trans (e3.trans (e4.trans e5)))))
  obtain ⟨s6, w6, o6, e6, h6⟩ := set_ok o5' r5' h5
  refine ⟨v, u, u3, rfl, ?_⟩
  rw [List.set_comm _ _ hij, List.set_comm _ _ hil, List.set_comm _ _ hjl]
  exact l.nx _ H3 s6 w6 o6 (ea.trans (e1.trans (eb.trans (e2.trans (ec.trans (e3.trans (e4.trans (e5.trans e6)))))))) h6
variable {ss : SS} {d : D} {cc : C} {G : Re → SS → Prop} {jj : Nat}
theorem x_prep1 : prep (.val d) ss G = G (.val d) ss := propext Iff.rfl
theorem x_prep2 : prep (.new cc) ss G = G (.new cc) ss := propext Iff.rfl
theorem x_prep3 : prep (.slo jj) ss G = fz (.slo jj) ss fun d s => G (.val d) s := propext Iff.rfl
end
end Vl
namespace Vl
open PySem PySem.Spec L2
open PyProof.Rows hiding St

/-! ### typed data: loops, comprehensions, what == says -/
section
variable {α β : Type}
theorem loop_tl {g : WG} {f : WS} {E : En} (e : α → D) (I : List α → SS → Prop) : ∀ (as pre : List α) (s : SS), I pre s →
    (∀ pre' a s, (∃ r, pre ++ as = pre' ++ a :: r) → I pre' s → ∀ P : SS → Prop, (∀ s', I (pre' ++ [a]) s' → P s') → g (e a) s fun s1 => f { E with nx := P, ct := P, bk := E.nx } s1) →
    (∀ s, I (pre ++ as) s → E.nx s) → loopW g f (as.map e) E s
  | [], pre, s, h, step, fin => fin s (by rw [List.append_nil]; exact h)
  | a :: as, pre, s, h, step, fin => by
    rw [List.map_cons]
    unfold loopW
    refine step pre a s ⟨as, rfl⟩ h _ fun s' h' => ?_
    have e1 : pre ++ a :: as = (pre ++ [a]) ++ as := by rw [List.append_assoc]; rfl
    exact loop_tl e I as (pre ++ [a]) s' h' (fun pre' b s hp hi P hP => step pre' b s (by rw [e1]; exact hp) hi P hP) fun s hs => fin s (by rw [e1]; exact hs)
/-- a loop over typed data, by what is done -/
theorem loop_t {g : WG} {f : WS} {E : En} (e : α → D) {as : List α} {s : SS} (I : List α → SS → Prop) (h : I [] s)
    (step : ∀ pre a s, (∃ r, as = pre ++ a :: r) → I pre s → ∀ P : SS → Prop, (∀ s', I (pre ++ [a]) s' → P s') → g (e a) s fun s1 => f { E with nx := P, ct := P, bk := E.nx } s1)
    (fin : ∀ s, I as s → E.nx s) : loopW g f (as.map e) E s :=
  loop_tl e I as [] s h step fin
/-- .. the state is a function of what is done -/
theorem loop_s {σ : Type} {g : WG} {f : WS} {E : En} (e : α → D) (st : σ → SS → Prop) (F : σ → α → σ) : ∀ {as : List α} {x : σ} {s : SS}, st x s →
    (∀ a ∈ as, ∀ x s, st x s → ∀ P : SS → Prop, (∀ s', st (F x a) s' → P s') → g (e a) s fun s1 => f { E with nx := P, ct := P, bk := E.nx } s1) →
    (∀ s, st (as.foldl F x) s → E.nx s) → loopW g f (as.map e) E s
  | [], x, s, h, step, fin => fin s h
  | a :: as, x, s, h, step, fin => by
    rw [List.map_cons]
    unfold loopW
    exact step a List.mem_cons_self x s h _ fun s' h' => loop_s (as := as) e st F h' (fun b hb => step b (List.mem_cons_of_mem _ hb)) fin
theorem filterMap_of {γ : Type} (e : α → γ) (F : γ → Option D) (G : α → Option D) (h : ∀ a, F (e a) = G a) (as : List α) : (as.map e).filterMap F = as.filterMap G := by
  rw [List.filterMap_map]
  congr 1
  funext a
  exact h a
/-- a comprehension over typed data -/
theorem comp_t {g : WG} {gt : WT} {fe : WV} {vs : List Nat} {K : List D → SS → Prop} (e : α → D) (F : α → Option D) : ∀ {as : List α} {acc : List D} {s : SS}, acc.length + as.length ≤ sizeLine →
    (∀ a ∈ as, ∀ P : Option D → SS → Prop, P (F a) s → g (e a) s fun s1 => gt s1 fun b s2 => if b = true then fe s2 fun y s3 => P (some y) (wipeS vs s3) else P none (wipeS vs s2)) →
    K (acc ++ as.filterMap F) s → compW g gt fe vs (as.map e) acc s K
  | [], acc, s, hl, step, fin => by
    rw [List.filterMap_nil, List.append_nil] at fin
    exact fin
  | a :: as, acc, s, hl, step, fin => by
    rw [List.map_cons]
    unfold compW
    rw [List.length_cons] at hl
    refine step a List.mem_cons_self (fun o s' => match o with
      | some y => acc.length < sizeLine ∧ compW g gt fe vs (as.map e) (acc ++ [y]) s' K
      | none => compW g gt fe vs (as.map e) acc s' K) ?_
    cases q : F a with
    | none =>
      rw [List.filterMap_cons_none q] at fin
      exact comp_t e F (by omega) (fun b hb => step b (List.mem_cons_of_mem _ hb)) fin
    | some y =>
      rw [List.filterMap_cons_some q] at fin
      refine ⟨by omega, comp_t e F (by rw [List.length_append]; show acc.length + 1 + as.length ≤ sizeLine; omega) (fun b hb => step b (List.mem_cons_of_mem _ hb)) ?_⟩
      rw [List.append_assoc]
      exact fin
/-- .. that keeps some -/
theorem comp_f {g : WG} {gt : WT} {fe : WV} {vs : List Nat} {K : List D → SS → Prop} {ds : List D} (e : α → D) {as : List α} (hd : ds = as.map e) (p : α → Bool) (y : α → β) (e2 : β → D) {s : SS} (hl : as.length ≤ sizeLine)
    (step : ∀ a ∈ as, ∀ P : Option D → SS → Prop, (p a = true → P (some (e2 (y a))) s) → (p a = false → P none s) → g (e a) s fun s1 => gt s1 fun b s2 => if b = true then fe s2 fun y s3 => P (some y) (wipeS vs s3) else P none (wipeS vs s2))
    (fin : K (((as.filter p).map y).map e2) s) : compW g gt fe vs ds [] s K := by
  subst hd
  refine comp_t e (fun a => if p a = true then some (e2 (y a)) else none) (by rw [List.length_nil, Nat.zero_add]; exact hl) (fun a ha P hP => step a ha P (fun h => ?_) (fun h => ?_)) ?_
  · rw [if_pos h] at hP; exact hP
  · rw [if_neg (by rw [h]; exact Bool.false_ne_true)] at hP; exact hP
  · rw [List.nil_append]
    have : as.filterMap (fun a => if p a = true then some (e2 (y a)) else none) = ((as.filter p).map y).map e2 := by
      clear step fin hl
      induction as with
      | nil => rfl
      | cons a as ih =>
        rw [List.filterMap_cons, List.filter_cons]
        cases q : p a with
        | true => simp only [if_true, List.map_cons]; rw [ih]
        | false => simp only [Bool.false_eq_true, if_false]; exact ih
    rw [this]; exact fin
/-- .. of all -/
theorem comp_m {g : WG} {fe : WV} {vs : List Nat} {K : List D → SS → Prop} {ds : List D} (e : α → D) {as : List α} (hd : ds = as.map e) (y : α → β) (e2 : β → D) {s : SS} (hl : as.length ≤ sizeLine)
    (step : ∀ a ∈ as, ∀ P : D → SS → Prop, P (e2 (y a)) s → g (e a) s fun s1 => fe s1 fun y s3 => P y (wipeS vs s3))
    (fin : K ((as.map y).map e2) s) : compW g gYes fe vs ds [] s K := by
  refine comp_f e hd (fun _ => true) y e2 hl (fun a ha P h1 _ => ?_) (by rw [List.filter_eq_self.mpr (fun _ _ => rfl)]; exact fin)
  exact step a ha (fun d s => P (some d) s) (h1 rfl)

/-- .. of none -/
theorem comp_0 {g : WG} {gt : WT} {fe : WV} {vs : List Nat} {K : List D → SS → Prop} {ds : List D} (e : α → D) {as : List α} (hd : ds = as.map e) {s : SS} (hl : as.length ≤ sizeLine)
    (step : ∀ a ∈ as, ∀ P : Option D → SS → Prop, P none s → g (e a) s fun s1 => gt s1 fun b s2 => if b = true then fe s2 fun y s3 => P (some y) (wipeS vs s3) else P none (wipeS vs s2))
    (fin : K [] s) : compW g gt fe vs ds [] s K := by
  refine comp_f e hd (fun _ => false) (fun a => a) e hl (fun a ha P _ h0 => step a ha P (h0 rfl)) ?_
  rw [List.filter_eq_nil_iff.mpr (fun _ _ => Bool.false_ne_true)]
  exact fin

/-- a dict's comprehension over typed data -/
theorem compD_t {g : WG} {gt : WT} {fk fv : WV} {vs : List Nat} {K : List (Key × D) → SS → Prop} (e : α → D) (F : α → Option (Key × D)) : ∀ {as : List α} {acc : List (Key × D)} {s : SS} {n : Nat}, acc.length ≤ n → n + as.length ≤ sizeLine →
    (∀ a ∈ as, ∀ P : Option (Key × D) → SS → Prop, P (F a) s → g (e a) s fun s1 => gt s1 fun b s2 => if b = true then fk s2 fun y s3 => fv s3 fun z s4 => ∃ k, keyOf y = some k ∧ P (some (k, z)) (wipeS vs s4) else P none (wipeS vs s2)) →
    K (as.foldl (fun acc a => match F a with | some (k, z) => putD acc k z | none => acc) acc) s → compD g gt fk fv vs (as.map e) acc s K
  | [], acc, s, n, hn, hl, step, fin => fin
  | a :: as, acc, s, n, hn, hl, step, fin => by
    rw [List.map_cons]
    unfold compD
    rw [List.length_cons] at hl
    have pl : ∀ k (z : D), (putD acc k z).length ≤ n + 1 := fun k z => by
      unfold putD
      split
      · rw [List.length_map]; omega
      · rw [List.length_append]; show acc.length + 1 ≤ _; omega
    refine step a List.mem_cons_self (fun o s' => match o with
      | some (k, z) => acc.length < sizeLine ∧ compD g gt fk fv vs (as.map e) (putD acc k z) s' K
      | none => compD g gt fk fv vs (as.map e) acc s' K) ?_
    rw [List.foldl_cons] at fin
    cases q : F a with
    | none =>
      rw [q] at fin
      exact compD_t e F (n := n) hn (by omega) (fun b hb => step b (List.mem_cons_of_mem _ hb)) fin
    | some kz =>
      obtain ⟨k, z⟩ := kz
      rw [q] at fin
      exact ⟨by omega, compD_t e F (n := n + 1) (pl k z) (by omega) (fun b hb => step b (List.mem_cons_of_mem _ hb)) fin⟩
/-- two fors -/
theorem compW2_t {g : WG} {gt : WT} {fi1 : WI} {g1 : WG} {gt1 : WT} {fe : WV} {vs vs1 : List Nat} {K : List D → SS → Prop} (e : α → D) (f : α → List D) : ∀ {as pre : List α} {acc : List D} {s : SS}, acc = pre.flatMap f →
    (∀ pre' a, (∃ r, pre ++ as = pre' ++ a :: r) → ∀ P : List D → SS → Prop, P (pre'.flatMap f ++ f a) s → g (e a) s fun s1 => gt s1 fun b s2 => if b = true then fi1 s2 fun ds1 s3 => compW g1 gt1 fe vs1 ds1 (pre'.flatMap f) (wipeS vs1 s3) fun acc' s4 => P acc' (wipeS vs s4) else P (pre'.flatMap f) (wipeS vs s2)) →
    K ((pre ++ as).flatMap f) s → compW2 g gt fi1 g1 gt1 fe vs vs1 (as.map e) acc s K
  | [], pre, acc, s, ha, step, fin => by
    rw [List.append_nil] at fin
    subst ha
    exact fin
  | a :: as, pre, acc, s, ha, step, fin => by
    subst ha
    rw [List.map_cons]
    unfold compW2
    have e1 : pre ++ a :: as = (pre ++ [a]) ++ as := by rw [List.append_assoc]; rfl
    refine step pre a ⟨as, rfl⟩ (fun acc' s' => compW2 g gt fi1 g1 gt1 fe vs vs1 (as.map e) acc' s' K) ?_
    refine compW2_t e f (pre := pre ++ [a]) (by rw [List.flatMap_append, List.flatMap_singleton]) (fun pre' b hp P hP => step pre' b (by rw [e1]; exact hp) P hP) (by rw [← e1]; exact fin)
theorem compD2_t {g : WG} {gt : WT} {fi1 : WI} {g1 : WG} {gt1 : WT} {fk fv : WV} {vs vs1 : List Nat} {K : List (Key × D) → SS → Prop} (e : α → D) (F : List (Key × D) → α → List (Key × D)) : ∀ {as pre : List α} {acc : List (Key × D)} {s : SS}, acc = pre.foldl F [] →
    (∀ pre' a, (∃ r, pre ++ as = pre' ++ a :: r) → ∀ P : List (Key × D) → SS → Prop, P (F (pre'.foldl F []) a) s → g (e a) s fun s1 => gt s1 fun b s2 => if b = true then fi1 s2 fun ds1 s3 => compD g1 gt1 fk fv vs1 ds1 (pre'.foldl F []) (wipeS vs1 s3) fun acc' s4 => P acc' (wipeS vs s4) else P (pre'.foldl F []) (wipeS vs s2)) →
    K ((pre ++ as).foldl F []) s → compD2 g gt fi1 g1 gt1 fk fv vs vs1 (as.map e) acc s K
  | [], pre, acc, s, ha, step, fin => by
    rw [List.append_nil] at fin
    subst ha
    exact fin
  | a :: as, pre, acc, s, ha, step, fin => by
    subst ha
    rw [List.map_cons]
    unfold compD2
    have e1 : pre ++ a :: as = (pre ++ [a]) ++ as := by rw [List.append_assoc]; rfl
    refine step pre a ⟨as, rfl⟩ (fun acc' s' => compD2 g gt fi1 g1 gt1 fk fv vs vs1 (as.map e) acc' s' K) ?_
    refine compD2_t e F (pre := pre ++ [a]) (by rw [List.foldl_append]; rfl) (fun pre' b hp P hP => step pre' b (by rw [e1]; exact hp) P hP) (by rw [← e1]; exact fin)
end
section
variable {g g1 : WG} {f : WS} {E : En} {gt gt1 : WT} {fe fk fv : WV} {fi1 : WI} {vs vs1 : List Nat} {d : D} {r : List D} {acc : List D} {accd : List (Key × D)} {s : SS} {K : List D → SS → Prop} {Kd : List (Key × D) → SS → Prop} {kl : List D → Prop} {ff : WV} {G : List D → SS → Prop}
theorem u_loop0 : loopW g f [] E s = E.nx s := propext Iff.rfl
theorem u_loop1 : loopW g f (d :: r) E s = g d s fun s1 => f { E with nx := loopW g f r E, ct := loopW g f r E, bk := E.nx } s1 := propext Iff.rfl
theorem u_comp0 : compW g gt fe vs [] acc s K = K acc s := propext Iff.rfl
theorem u_comp1 : compW g gt fe vs (d :: r) acc s K = g d s fun s1 => gt s1 fun b s2 => if b = true then fe s2 fun y s3 => acc.length < sizeLine ∧ compW g gt fe vs r (acc ++ [y]) (wipeS vs s3) K else compW g gt fe vs r acc (wipeS vs s2) K := propext Iff.rfl
theorem u_compD0 : compD g gt fk fv vs [] accd s Kd = Kd accd s := propext Iff.rfl
theorem u_compD1 : compD g gt fk fv vs (d :: r) accd s Kd = g d s fun s1 => gt s1 fun b s2 => if b = true then fk s2 fun y s3 => fv s3 fun z s4 => ∃ k, keyOf y = some k ∧ accd.length < sizeLine ∧ compD g gt fk fv vs r (putD accd k z) (wipeS vs s4) Kd else compD g gt fk fv vs r accd (wipeS vs s2) Kd := propext Iff.rfl
theorem x_seq : fSeq ff s G = ff s fun d s => seqD d fun ds => G ds s := propext Iff.rfl
theorem x_sq_l : seqD (.lst r) kl = kl r := propext Iff.rfl
theorem x_sq_t : seqD (.tup r) kl = kl r := propext Iff.rfl
theorem x_k_s {x : Str} : keyOf (.str x) = some (.inr x) := rfl
theorem x_k_i {i : Int} : keyOf (.int i) = some (.inl i) := rfl
end
section
variable {α : Type}
theorem cut_drop {xs : List α} {i : Int} (k : Nat) (h : i = k := by omega) : cutL xs (some i) none = xs.drop k := by
  subst h
  show (xs.drop (HT.sIx xs.length 0 (some (k : Int)))).take (xs.length - HT.sIx xs.length 0 (some (k : Int))) = _
  rw [HT.sIx_nat]
  by_cases q : k ≤ xs.length
  · rw [Nat.min_eq_left q, List.take_of_length_le (by rw [List.length_drop]; exact Nat.le_refl _)]
  · rw [Nat.min_eq_right (by omega), List.drop_length, List.drop_of_length_le (by omega)]; simp
theorem cut_take {xs : List α} {i : Int} (k : Nat) (h : i = k := by omega) : cutL xs none (some i) = xs.take k := by
  subst h
  show (xs.drop 0).take (HT.sIx xs.length xs.length (some (k : Int)) - 0) = _
  rw [HT.sIx_nat, List.drop_zero, Nat.sub_zero]
  by_cases q : k ≤ xs.length
  · rw [Nat.min_eq_left q]
  · rw [Nat.min_eq_right (by omega), List.take_length, List.take_of_length_le (by omega)]
theorem cut_mid {xs : List α} {i j : Int} (k m : Nat) (h : i = k := by omega) (h' : j = m := by omega) : cutL xs (some i) (some j) = (xs.take m).drop k := by
  subst h; subst h'
  show (xs.drop (HT.sIx xs.length 0 (some (k : Int)))).take (HT.sIx xs.length xs.length (some (m : Int)) - HT.sIx xs.length 0 (some (k : Int))) = _
  rw [HT.sIx_nat, HT.sIx_nat, List.drop_take]
  by_cases q : k ≤ xs.length
  · rw [Nat.min_eq_left q]
    by_cases q2 : m ≤ xs.length
    · rw [Nat.min_eq_left q2]
    · rw [Nat.min_eq_right (by omega), List.take_of_length_le (by rw [List.length_drop]; exact Nat.le_refl _), List.take_of_length_le (by rw [List.length_drop]; omega)]
  · rw [Nat.min_eq_right (by omega : xs.length ≤ k), List.drop_length, List.drop_of_length_le (by omega : xs.length ≤ k)]; simp
theorem upI0 (n : Nat) : upI 0 n = (List.range n).map fun (i : Nat) => D.int i := by
  unfold upI
  refine List.map_congr_left fun i _ => ?_
  rw [Int.zero_add]
theorem numD_from (e : α → D) (d0 : α) : ∀ (as : List α) (n : Nat), numD n (as.map e) = (List.range as.length).map fun i => D.tup [.int ((n + i : Nat) : Int), e (as.getD i d0)]
  | [], n => rfl
  | a :: as, n => by
    rw [List.map_cons, List.length_cons, List.range_succ_eq_map, List.map_cons, List.map_map]
    show D.tup [.int n, e a] :: numD (n + 1) (as.map e) = _
    rw [numD_from e d0 as (n + 1)]
    congr 1
    refine List.map_congr_left fun i _ => ?_
    show D.tup [.int ((n + 1 + i : Nat) : Int), _] = D.tup [.int ((n + (i + 1) : Nat) : Int), _]
    rw [show n + 1 + i = n + (i + 1) by omega]; rfl
theorem numD_r (e : α → D) (d0 : α) (as : List α) : numD 0 (as.map e) = (List.range as.length).map fun (i : Nat) => D.tup [.int i, e (as.getD i d0)] := by
  rw [numD_from e d0 as 0]
  refine List.map_congr_left fun i _ => ?_
  rw [Nat.zero_add]
theorem range_split {n a : Nat} {pre r : List Nat} (h : List.range n = pre ++ a :: r) : a < n ∧ pre.length = a ∧ pre = List.range a := by
  have hl := congrArg List.length h
  rw [List.length_range, List.length_append, List.length_cons] at hl
  have h1 : (List.range n)[pre.length]? = some a := by rw [h, List.getElem?_append_right (Nat.le_refl _), Nat.sub_self]; rfl
  rw [List.getElem?_range (by omega)] at h1
  have e : pre.length = a := Option.some.inj h1
  refine ⟨by omega, e, ?_⟩
  have := congrArg (List.take pre.length) h
  rw [List.take_left, List.take_range, Nat.min_eq_left (by omega), e] at this
  exact this.symm
theorem loop_r {g : WG} {f : WS} {E : En} {n : Nat} {s : SS} (e : Nat → D) (I : Nat → SS → Prop) (h : I 0 s)
    (step : ∀ i s, i < n → I i s → ∀ P : SS → Prop, (∀ s', I (i + 1) s' → P s') → g (e i) s fun s1 => f { E with nx := P, ct := P, bk := E.nx } s1)
    (fin : ∀ s, I n s → E.nx s) : loopW g f ((List.range n).map e) E s := by
  refine loop_t e (fun pre s => I pre.length s) h ?_ (fun s hs => fin s (by rw [List.length_range] at hs; exact hs))
  rintro pre a s ⟨r, hr⟩ hi P hP
  obtain ⟨h1, h2, h3⟩ := range_split hr
  rw [h2] at hi
  exact step a s h1 hi P fun s' h' => hP s' (by rw [List.length_append, h2]; exact h')
theorem getD_at {as : List α} {i : Nat} (d0 : α) (h : i < as.length) : as[i]? = some (as.getD i d0) := by
  rw [List.getD_eq_getElem?_getD, List.getElem?_eq_getElem h]; rfl
theorem getD_mem {as : List α} {i : Nat} (d0 : α) (h : i < as.length) : as.getD i d0 ∈ as := List.mem_of_getElem? (getD_at d0 h)
theorem atI_map {β : Type} {e : α → β} {as : List α} {i : Int} (k : Nat) (d0 : α) (h : k < as.length) (hi : i = k := by omega) : L2.atI (as.map e) i = some (e (as.getD k d0)) := by
  subst hi
  exact atI_nat (by rw [List.getElem?_map, getD_at d0 h]; rfl)
theorem filter_range_succ (p : Nat → Bool) (n : Nat) : (List.range (n + 1)).filter p = (List.range n).filter p ++ if p n = true then [n] else [] := by
  rw [List.range_succ, List.filter_append, List.filter_cons, List.filter_nil]
end
theorem ixN_10 : L2.ixN 1 0 = some 0 := by decide
theorem ixN_20 : L2.ixN 2 0 = some 0 := by decide
theorem ixN_21 : L2.ixN 2 1 = some 1 := by decide
theorem ixN_30 : L2.ixN 3 0 = some 0 := by decide
theorem ixN_31 : L2.ixN 3 1 = some 1 := by decide
theorem ixN_32 : L2.ixN 3 2 = some 2 := by decide
theorem ixN_40 : L2.ixN 4 0 = some 0 := by decide
theorem ixN_41 : L2.ixN 4 1 = some 1 := by decide
theorem ixN_42 : L2.ixN 4 2 = some 2 := by decide
theorem ixN_43 : L2.ixN 4 3 = some 3 := by decide
theorem ixN_50 : L2.ixN 5 0 = some 0 := by decide
theorem ixN_51 : L2.ixN 5 1 = some 1 := by decide
theorem ixN_52 : L2.ixN 5 2 = some 2 := by decide
theorem ixN_53 : L2.ixN 5 3 = some 3 := by decide
theorem ixN_54 : L2.ixN 5 4 = some 4 := by decide
theorem ixN_60 : L2.ixN 6 0 = some 0 := by decide
theorem ixN_61 : L2.ixN 6 1 = some 1 := by decide
theorem ixN_62 : L2.ixN 6 2 = some 2 := by decide
theorem ixN_63 : L2.ixN 6 3 = some 3 := by decide
theorem ixN_64 : L2.ixN 6 4 = some 4 := by decide
theorem ixN_65 : L2.ixN 6 5 = some 5 := by decide
/-! ### plain data of small depth -/
def ly (n : Nat) (d : D) : Prop := (toPy d).canLay0 = true ∧ (toPy d).depth ≤ n
theorem ly_mono {n m : Nat} {d : D} (h : ly n d) (h' : n ≤ m) : ly m d := ⟨h.1, Nat.le_trans h.2 h'⟩
theorem shp_ly {n : Nat} {d : D} (h : ly n d) (h' : n ≤ 64 := by decide) : shp d = true := by
  show (PyData.canLay0 (toPy d) && decide ((toPy d).depth ≤ 64)) = true
  rw [h.1, decide_eq_true (Nat.le_trans h.2 h')]; rfl
theorem ly_non {n : Nat} : ly n .non := ⟨rfl, Nat.zero_le _⟩
theorem ly_bl {n : Nat} {b : Bool} : ly n (.bl b) := ⟨rfl, Nat.zero_le _⟩
theorem ly_int {n : Nat} {i : Int} : ly n (.int i) := ⟨rfl, Nat.zero_le _⟩
theorem ly_str {n : Nat} {x : Str} (h : PyData.strOk x = true) : ly n (.str x) := ⟨h, Nat.zero_le _⟩
theorem lyL : ∀ {n : Nat} {ds : List D}, (∀ d ∈ ds, ly n d) → PyData.canLayAll0 (toPyL ds) = true ∧ PyData.depthAll (toPyL ds) ≤ n
  | n, [], _ => ⟨rfl, Nat.zero_le _⟩
  | n, d :: ds, h => by
    obtain ⟨a, b⟩ := lyL fun e he => h e (List.mem_cons_of_mem _ he)
    obtain ⟨c, f⟩ := h d List.mem_cons_self
    refine ⟨?_, ?_⟩
    · show (PyData.canLay0 (toPy d) && PyData.canLayAll0 (toPyL ds)) = true
      rw [a, c]; rfl
    · show PyData.depthAll (toPy d :: toPyL ds) ≤ n
      unfold PyData.depthAll
      omega
theorem ly_lst {n : Nat} {ds : List D} (h : ∀ d ∈ ds, ly n d) : ly (n + 1) (.lst ds) := by
  obtain ⟨a, b⟩ := lyL h
  refine ⟨a, ?_⟩
  show PyData.depth (.list (toPyL ds)) ≤ n + 1
  unfold PyData.depth
  omega
theorem ly_tup {n : Nat} {ds : List D} (h : ∀ d ∈ ds, ly n d) : ly (n + 1) (.tup ds) := by
  obtain ⟨a, b⟩ := lyL h
  refine ⟨a, ?_⟩
  show PyData.depth (.tuple (toPyL ds)) ≤ n + 1
  unfold PyData.depth
  omega
end Vl
namespace Vl
open PySem PySem.Spec L2
open PyProof.Rows hiding St

/-! ### what == says of typed data -/
section
variable {α β : Type}
def EqE [DecidableEq α] (e : α → D) : Prop := ∀ a b, eqD (e a) (e b) = decide (a = b)
theorem eqE_str : EqE D.str := fun a b => by rw [Bool.eq_iff_iff]; simp [eqD, toPy, PyData.eqv]
theorem eqE_int : EqE D.int := fun a b => by rw [Bool.eq_iff_iff]; simp [eqD, toPy, PyData.eqv]
theorem eqE_lst [DecidableEq α] {e : α → D} (h : EqE e) : EqE fun l : List α => D.lst (l.map e) := by
  intro a b
  show PyData.eqvAll (toPyL (a.map e)) (toPyL (b.map e)) = _
  induction a generalizing b with
  | nil => cases b <;> rfl
  | cons a as ih =>
    cases b with
    | nil => rfl
    | cons b bs =>
      show (PyData.eqv (toPy (e a)) (toPy (e b)) && PyData.eqvAll (toPyL (as.map e)) (toPyL (bs.map e))) = _
      rw [ih, show PyData.eqv (toPy (e a)) (toPy (e b)) = decide (a = b) from h a b, Bool.eq_iff_iff]
      simp
theorem eqE_pair [DecidableEq α] [DecidableEq β] {e : α → D} {e' : β → D} (h : EqE e) (h' : EqE e') : EqE fun p : α × β => D.tup [e p.1, e' p.2] := by
  intro a b
  show (PyData.eqv (toPy (e a.1)) (toPy (e b.1)) && (PyData.eqv (toPy (e' a.2)) (toPy (e' b.2)) && true)) = _
  rw [show PyData.eqv (toPy (e a.1)) (toPy (e b.1)) = decide (a.1 = b.1) from h _ _, show PyData.eqv (toPy (e' a.2)) (toPy (e' b.2)) = decide (a.2 = b.2) from h' _ _, Bool.eq_iff_iff]
  simp [Prod.ext_iff]
theorem inL_e [DecidableEq α] {e : α → D} (h : EqE e) {a : α} {as : List α} : inL (e a) (as.map e) = decide (a ∈ as) := by
  unfold inL
  rw [List.any_map, Bool.eq_iff_iff, List.any_eq_true, decide_eq_true_iff]
  constructor
  · rintro ⟨x, hx, q⟩
    have q : eqD (e x) (e a) = true := q
    rw [h x a, decide_eq_true_iff] at q
    exact q ▸ hx
  · intro m
    refine ⟨a, m, ?_⟩
    show eqD (e a) (e a) = true
    rw [h a a, decide_eq_true rfl]
mutual
theorem eqv_refl0 : ∀ d : PyData, d.canLay0 = true → PyData.eqv d d = true
  | .none, _ => rfl
  | .bool b, _ => by simp [PyData.eqv]
  | .int i, _ => by simp [PyData.eqv]
  | .str x, _ => by simp [PyData.eqv]
  | .list xs, h => by
    show PyData.eqvAll xs xs = true
    exact eqvA_refl0 xs h
  | .tuple xs, h => by
    show PyData.eqvAll xs xs = true
    exact eqvA_refl0 xs h
  | .dict _, h => by cases h
theorem eqvA_refl0 : ∀ ds : List PyData, PyData.canLayAll0 ds = true → PyData.eqvAll ds ds = true
  | [], _ => rfl
  | d :: ds, h => by
    have h' : d.canLay0 = true ∧ PyData.canLayAll0 ds = true := by
      have q : (d.canLay0 && PyData.canLayAll0 ds) = true := h
      simpa using q
    show (PyData.eqv d d && PyData.eqvAll ds ds) = true
    rw [eqv_refl0 d h'.1, eqvA_refl0 ds h'.2]; rfl
end
theorem eqD_same {n : Nat} {d : D} (h : ly n d) : eqD d d = true := eqv_refl0 _ h.1
theorem cmp_ly {n m : Nat} {a b : D} (h : ly n a) (h' : ly m b) (hn : n ≤ 64 := by decide) (hm : m ≤ 64 := by decide) : cmpOk a b := .inr ⟨shp_ly h hn, shp_ly h' hm⟩
theorem ly_map {n : Nat} {e : α → D} {as : List α} (h : ∀ a ∈ as, ly n (e a)) : ly (n + 1) (.lst (as.map e)) := ly_lst fun d hd => by
  obtain ⟨a, ha, rfl⟩ := List.mem_map.mp hd
  exact h a ha
theorem ly_pair {n : Nat} {a b : D} (h : ly n a) (h' : ly n b) : ly (n + 1) (.tup [a, b]) := ly_tup fun d hd => by
  rcases List.mem_cons.mp hd with rfl | hd
  · exact h
  · rw [List.mem_singleton.mp hd]; exact h'
theorem ly_nil {n : Nat} : ly (n + 1) (.lst []) := ly_lst fun _ h => by cases h
theorem flat_strs (l : List Str) : (l.map D.str).all flatD = true := by rw [List.all_map]; exact List.all_eq_true.mpr fun _ _ => rfl
theorem flat_ints (l : List Int) : (l.map D.int).all flatD = true := by rw [List.all_map]; exact List.all_eq_true.mpr fun _ _ => rfl
end

/-! ### labels -/
abbrev signsS : Str := "abcdefghijklmnopqrstuvwxyz0123456789-"
def sgn : List Nat := [97, 98, 99, 100, 101, 102, 103, 104, 105, 106, 107, 108, 109, 110, 111, 112, 113, 114, 115, 116, 117, 118, 119, 120, 121, 122, 48, 49, 50, 51, 52, 53, 54, 55, 56, 57, 45]
theorem signs_sgn : signsS.cps.toList = sgn := by decide +kernel
theorem signs_len : signsS.length = 37 := by decide +kernel
theorem sgn_in : ∀ c ∈ sgn, inS ⟨#[c]⟩ signsS = true := by decide +kernel
theorem sgn_small : ∀ c ∈ sgn, c < 0x110000 := by decide +kernel
structure IsLab (x : Str) : Prop where
  lo : 1 ≤ x.length
  hi : x.length ≤ 40
  sg : ∀ c ∈ x.cps.toList, c ∈ sgn
instance (x : Str) : Decidable (IsLab x) := decidable_of_iff (1 ≤ x.length ∧ x.length ≤ 40 ∧ ∀ c ∈ x.cps.toList, c ∈ sgn) ⟨fun h => ⟨h.1, h.2.1, h.2.2⟩, fun h => ⟨h.lo, h.hi, h.sg⟩⟩
theorem IsLab.ok {x : Str} (h : IsLab x) : PyData.strOk x = true := by
  show x.cps.all (· < 0x110000) = true
  rw [← Array.all_toList, List.all_eq_true]
  exact fun c hc => decide_eq_true (sgn_small c (h.sg c hc))
theorem IsLab.ly {n : Nat} {x : Str} (h : IsLab x) : ly n (.str x) := ly_str h.ok
theorem IsLab.sz {x : Str} (h : IsLab x) : x.length ≤ sizeLine := Nat.le_trans h.hi (by decide)
theorem str_len_app (x y : Str) : (x ++ y).length = x.length + y.length := by
  show (x.cps ++ y.cps).size = x.cps.size + y.cps.size
  exact Array.size_append
theorem str_app_list (x y : Str) : (x ++ y).cps.toList = x.cps.toList ++ y.cps.toList := by
  show (x.cps ++ y.cps).toList = _
  exact Array.toList_append
theorem str_nil_len : ("" : Str).length = 0 := by decide +kernel
theorem str_nil_list : ("" : Str).cps.toList = [] := by decide +kernel
theorem str_one_len (c : Nat) : (⟨#[c]⟩ : Str).length = 1 := rfl
theorem str_len_list (x : Str) : x.length = x.cps.toList.length := (Array.length_toList).symm

/-! ### sets of labels as dicts -/
def uqF (acc : List Str) (x : Str) : List Str := if x ∈ acc then acc else acc ++ [x]
def uq (l : List Str) : List Str := l.foldl uqF []
theorem mem_uqF {l : List Str} {x y : Str} : y ∈ uqF l x ↔ y ∈ l ∨ y = x := by
  unfold uqF
  split
  · rename_i h
    exact ⟨.inl, fun z => z.elim id fun z => z ▸ h⟩
  · rw [List.mem_append, List.mem_singleton]
theorem mem_uqL : ∀ (l acc : List Str) {y : Str}, y ∈ l.foldl uqF acc ↔ y ∈ acc ∨ y ∈ l
  | [], acc, y => by simp
  | x :: l, acc, y => by rw [List.foldl_cons, mem_uqL l, mem_uqF, List.mem_cons, or_assoc]
theorem mem_uq {l : List Str} {y : Str} : y ∈ uq l ↔ y ∈ l := by unfold uq; rw [mem_uqL]; simp
theorem nodup_uqF {l : List Str} {x : Str} (h : l.Nodup) : (uqF l x).Nodup := by
  unfold uqF
  split
  · exact h
  · rename_i q
    rw [List.nodup_append]
    refine ⟨h, by simp, fun a ha b hb => ?_⟩
    rw [List.mem_singleton.mp hb]
    exact fun z => q (z ▸ ha)
theorem nodup_uqL : ∀ (l acc : List Str), acc.Nodup → (l.foldl uqF acc).Nodup
  | [], acc, h => h
  | x :: l, acc, h => nodup_uqL l _ (nodup_uqF h)
theorem nodup_uq (l : List Str) : (uq l).Nodup := nodup_uqL l [] List.nodup_nil
theorem len_uqL : ∀ (l acc : List Str), (l.foldl uqF acc).length ≤ acc.length + l.length
  | [], acc => Nat.le_refl _
  | x :: l, acc => by
    rw [List.foldl_cons, List.length_cons]
    refine Nat.le_trans (len_uqL l _) ?_
    unfold uqF
    split
    · omega
    · rw [List.length_append, List.length_singleton]; omega
theorem len_uq (l : List Str) : (uq l).length ≤ l.length := by
  have := len_uqL l []
  rw [List.length_nil, Nat.zero_add] at this
  exact this
theorem uqL_nodup : ∀ (l acc : List Str), (acc ++ l).Nodup → l.foldl uqF acc = acc ++ l
  | [], acc, _ => (List.append_nil acc).symm
  | x :: l, acc, h => by
    rw [List.foldl_cons]
    have hx : x ∉ acc := fun m => by
      rw [List.nodup_append] at h
      exact h.2.2 x m x List.mem_cons_self rfl
    have e : uqF acc x = acc ++ [x] := by unfold uqF; rw [if_neg hx]
    rw [e, uqL_nodup l (acc ++ [x]) (by rw [List.append_assoc]; exact h), List.append_assoc]; rfl
theorem uq_nodup {l : List Str} (h : l.Nodup) : uq l = l := uqL_nodup l [] h
def kF (f : Str → D) (l : List Str) : List (Key × D) := l.map fun x => (.inr x, f x)
theorem any_kF {f : Str → D} {l : List Str} {x : Str} : ((kF f l).any fun kv => decide (kv.1 = .inr x)) = decide (x ∈ l) := by
  unfold kF
  rw [List.any_map, Bool.eq_iff_iff, List.any_eq_true, decide_eq_true_iff]
  constructor
  · rintro ⟨y, hy, q⟩
    have q : decide ((.inr y : Key) = .inr x) = true := q
    rw [decide_eq_true_iff] at q
    cases q; exact hy
  · exact fun m => ⟨x, m, decide_eq_true rfl⟩
theorem putD_kF {f : Str → D} {l : List Str} {x : Str} : putD (kF f l) (.inr x) (f x) = kF f (uqF l x) := by
  unfold putD uqF
  rw [any_kF]
  by_cases h : x ∈ l
  · rw [if_pos (decide_eq_true h), if_pos h]
    unfold kF
    rw [List.map_map]
    refine List.map_congr_left fun y _ => ?_
    by_cases e : (.inr y : Key) = .inr x
    · cases e
      show (if (.inr x : Key) = .inr x then _ else _) = _
      rw [if_pos rfl]
    · show (if (.inr y : Key) = .inr x then _ else _) = _
      rw [if_neg e]
  · rw [if_neg (by rw [decide_eq_false h]; exact Bool.false_ne_true), if_neg h]
    unfold kF
    rw [List.map_append]; rfl
theorem fold_kF {f : Str → D} : ∀ (as l : List Str), as.foldl (fun acc a => putD acc (.inr a) (f a)) (kF f l) = kF f (as.foldl uqF l)
  | [], _ => rfl
  | a :: as, l => by rw [List.foldl_cons, List.foldl_cons, putD_kF, fold_kF as]
theorem val_kF {f : Str → D} {l : List Str} {x : Str} (h : x ∈ l) : valD (kF f l) (.inr x) = some (f x) := by
  induction l with
  | nil => cases h
  | cons y l ih =>
    unfold valD kF
    rw [List.map_cons, List.find?_cons]
    by_cases e : (.inr y : Key) = .inr x
    · cases e
      simp
    · have : decide ((.inr y : Key) = .inr x) = false := decide_eq_false e
      rw [this]
      have hx : x ∈ l := by
        rcases List.mem_cons.mp h with h | h
        · exact absurd (h ▸ rfl) e
        · exact h
      exact ih hx
theorem val_kF_none {f : Str → D} {l : List Str} {x : Str} (h : x ∉ l) : valD (kF f l) (.inr x) = none := by
  unfold valD
  rw [Option.map_eq_none_iff, List.find?_eq_none]
  intro kv hkv
  unfold kF at hkv
  obtain ⟨y, hy, rfl⟩ := List.mem_map.mp hkv
  intro q
  have q := of_decide_eq_true q
  cases q
  exact h hy
theorem has_kF {f : Str → D} {l : List Str} {x : Str} : (valD (kF f l) (.inr x)).isSome = decide (x ∈ l) := by
  by_cases h : x ∈ l
  · rw [val_kF h, decide_eq_true h]; rfl
  · rw [val_kF_none h, decide_eq_false h]; rfl
theorem keys_kF {f : Str → D} {l : List Str} : (kF f l).map (fun kv => kD kv.1) = l.map D.str := by unfold kF; rw [List.map_map]; rfl
theorem len_kF {f : Str → D} {l : List Str} : (kF f l).length = l.length := by unfold kF; rw [List.length_map]
/-- {y: f(y) for ..}, the keys texts -/
theorem comp_kF {α : Type} {g : WG} {fk fv : WV} {vs : List Nat} {K : List (Key × D) → SS → Prop} {ds : List D} (e : α → D) {as : List α} (hd : ds = as.map e) (y : α → Str) (f : Str → D) {s : SS} (hl : as.length ≤ sizeLine)
    (step : ∀ a ∈ as, ∀ P : D → D → SS → Prop, P (.str (y a)) (f (y a)) s → g (e a) s fun s1 => fk s1 fun k s3 => fv s3 fun z s4 => P k z (wipeS vs s4))
    (fin : K (kF f (uq (as.map y))) s) : compD g gYes fk fv vs ds [] s K := by
  subst hd
  refine compD_t e (fun a => some (.inr (y a), f (y a))) (n := 0) (Nat.zero_le _) (by omega) (fun a ha P hP => ?_) ?_
  · exact step a ha (fun k z s => ∃ k', keyOf k = some k' ∧ P (some (k', z)) s) ⟨_, rfl, hP⟩
  · have : as.foldl (fun acc a => putD acc (.inr (y a)) (f (y a))) [] = kF f (uq (as.map y)) := by
      have := fold_kF (f := f) (as.map y) []
      rw [List.foldl_map] at this
      exact this
    exact this ▸ fin
end Vl
namespace Vl
open PySem PySem.Spec L2
open PyProof.Rows hiding St

/-! ### scripts -/
abbrev Stp := Str × Str
abbrev dSt (m : Stp) : D := .tup [.str m.1, .str m.2]
abbrev dM (ms : List Stp) : D := .lst (ms.map dSt)
abbrev dS (l : List Str) : D := .lst (l.map D.str)
def IsScr (ms : List Stp) : Prop := ∀ m ∈ ms, IsLab m.1 ∧ IsLab m.2
def Labs (l : List Str) : Prop := ∀ x ∈ l, IsLab x
def imgF (ms : List Stp) (x : Str) : Str := ms.foldl (fun y m => if y = m.1 then m.2 else y) x
def nmL (ms : List Stp) : List Str := uq (ms.flatMap fun m => [m.1, m.2])
def nmF (ms : List Stp) : List Str := srtS (nmL ms)
def chF (ms : List Stp) : List Stp := ((nmF ms).map fun x => (x, imgF ms x)).filter fun p => decide (p.1 ≠ p.2)
def ulF (one other : List Stp) : Option Str := (nmF (one ++ other)).find? fun x => decide (imgF one x ≠ imgF other x)
abbrev iN (i : Nat) : D := .int i
def oS : Option Str → D
  | none => .non
  | some x => .str x
def stG : List Stp → List Str → List (List Str)
  | [], _ => []
  | m :: ms, now => now :: stG ms (uq (now.map fun x => if x = m.1 then m.2 else x))
def stF (ms : List Stp) : List (List Str) := stG ms (uq (nmF ms))
def idP (ms : List Stp) (i : Nat) (m : Stp) : Bool := decide (m.1 ∉ (stF ms).getD i []) || decide (imgF (ms.drop (i + 1)) m.1 = imgF (ms.drop (i + 1)) m.2)
def idF (ms : List Stp) : List Nat := (List.range ms.length).filter fun i => idP ms i (ms.getD i ("", ""))
def loP (ms : List Stp) (i : Nat) : Bool :=
  let one := ms.drop i
  let other := [ms.getD (i + 1) ("", ""), ms.getD i ("", "")] ++ ms.drop (i + 2)
  (([(ms.getD i ("", "")).1, (ms.getD (i + 1) ("", "")).1].filter fun x => decide (x ∈ (stF ms).getD i [])).filter fun x => decide (imgF one x ≠ imgF other x)).isEmpty
def loF (ms : List Stp) : List Nat := (List.range (ms.length - 1)).filter fun i => loP ms i
def soL (ms : List Stp) (x : Str) : List Str := srtS (uq (nmF ms ++ [x]))
def soF (ms : List Stp) (x : Str) : List Str := (soL ms x).filter fun y => decide (imgF ms y = x)
def lsF (ms : List Stp) : List Str := (nmF ms).filter fun x => decide (soF ms x = [])
def meG (ms : List Stp) : List (List Str) := ((nmF ms).map (soF ms)).filter fun g => decide (1 < g.length)
def meF (ms : List Stp) : List D := srtD false ((meG ms).map dS)

theorem perm_srtS (l : List Str) : (srtS l).Perm l := List.mergeSort_perm l _
theorem mem_srtS {l : List Str} {x : Str} : x ∈ srtS l ↔ x ∈ l := (perm_srtS l).mem_iff
theorem len_srtS (l : List Str) : (srtS l).length = l.length := (perm_srtS l).length_eq
theorem nodup_srtS {l : List Str} : (srtS l).Nodup ↔ l.Nodup := (perm_srtS l).nodup_iff
theorem mem_nmL {ms : List Stp} {x : Str} : x ∈ nmL ms ↔ ∃ m ∈ ms, x = m.1 ∨ x = m.2 := by
  unfold nmL
  rw [mem_uq, List.mem_flatMap]
  simp
theorem mem_nmF {ms : List Stp} {x : Str} : x ∈ nmF ms ↔ ∃ m ∈ ms, x = m.1 ∨ x = m.2 := by unfold nmF; rw [mem_srtS, mem_nmL]
theorem len_nmL (ms : List Stp) : (nmL ms).length ≤ 2 * ms.length := by
  unfold nmL
  refine Nat.le_trans (len_uq _) ?_
  induction ms with
  | nil => exact Nat.le_refl _
  | cons m ms ih =>
    simp only [List.flatMap_cons, List.length_append, List.length_cons, List.length_nil] at ih ⊢; omega
theorem len_nmF (ms : List Stp) : (nmF ms).length ≤ 2 * ms.length := by unfold nmF; rw [len_srtS]; exact len_nmL ms
theorem nodup_nmF (ms : List Stp) : (nmF ms).Nodup := nodup_srtS.mpr (nodup_uq _)
theorem imgF_lab {ms : List Stp} {x : Str} (h : IsScr ms) (hx : IsLab x) : IsLab (imgF ms x) := by
  unfold imgF
  induction ms generalizing x with
  | nil => exact hx
  | cons m ms ih =>
    rw [List.foldl_cons]
    refine ih (fun a ha => h a (List.mem_cons_of_mem _ ha)) ?_
    split
    · exact (h m List.mem_cons_self).2
    · exact hx
theorem nmF_lab {ms : List Stp} (h : IsScr ms) : Labs (nmF ms) := fun x hx => by
  obtain ⟨m, hm, e⟩ := mem_nmF.mp hx
  rcases e with rfl | rfl
  · exact (h m hm).1
  · exact (h m hm).2
theorem chF_len (ms : List Stp) : (chF ms).length ≤ 2 * ms.length := by
  unfold chF
  refine Nat.le_trans (List.length_filter_le _ _) ?_
  rw [List.length_map]; exact len_nmF ms
theorem chF_scr {ms : List Stp} (h : IsScr ms) : IsScr (chF ms) := fun p hp => by
  unfold chF at hp
  obtain ⟨x, hx, rfl⟩ := List.mem_map.mp (List.mem_filter.mp hp).1
  exact ⟨nmF_lab h x hx, imgF_lab h (nmF_lab h x hx)⟩
theorem stG_len : ∀ (ms : List Stp) (now : List Str), (stG ms now).length = ms.length
  | [], _ => rfl
  | m :: ms, now => congrArg (· + 1) (stG_len ms _)
theorem stF_len (ms : List Stp) : (stF ms).length = ms.length := stG_len ms _
theorem stG_mem : ∀ (ms : List Stp) (now l : List Str), l ∈ stG ms now → l.length ≤ now.length
  | [], _, _, h => by cases h
  | m :: ms, now, l, h => by
    rcases List.mem_cons.mp h with rfl | h
    · exact Nat.le_refl _
    · refine Nat.le_trans (stG_mem ms _ l h) (Nat.le_trans (len_uq _) ?_)
      rw [List.length_map]; exact Nat.le_refl _
theorem len_soL (ms : List Stp) (x : Str) : (soL ms x).length ≤ 2 * ms.length + 1 := by
  unfold soL
  rw [len_srtS]
  refine Nat.le_trans (len_uq _) ?_
  rw [List.length_append, List.length_singleton]
  have := len_nmF ms
  omega
theorem len_soF (ms : List Stp) (x : Str) : (soF ms x).length ≤ 2 * ms.length + 1 := Nat.le_trans (List.length_filter_le _ _) (len_soL ms x)
theorem soF_lab {ms : List Stp} (h : IsScr ms) {x : Str} (hx : IsLab x) : Labs (soF ms x) := fun y hy => by
  unfold soF soL at hy
  have := mem_uq.mp (mem_srtS.mp (List.mem_filter.mp hy).1)
  rcases List.mem_append.mp this with q | q
  · exact nmF_lab h y q
  · rw [List.mem_singleton.mp q]; exact hx
theorem ly_dS {n : Nat} {l : List Str} (h : Labs l) : ly (n + 1) (dS l) := ly_map fun x hx => (h x hx).ly
theorem ly_dSt {n : Nat} {m : Stp} (h : IsLab m.1 ∧ IsLab m.2) : ly (n + 1) (dSt m) := ly_pair h.1.ly h.2.ly
theorem ly_dM {n : Nat} {ms : List Stp} (h : IsScr ms) : ly (n + 2) (dM ms) := ly_map fun m hm => ly_dSt (h m hm)
theorem ly_ints {n : Nat} {l : List Int} : ly (n + 1) (.lst (l.map D.int)) := ly_map fun _ _ => ly_int
theorem eqE_dSt : EqE dSt := eqE_pair eqE_str eqE_str
theorem eqE_dM : EqE dM := eqE_lst eqE_dSt
theorem eqE_dS : EqE dS := eqE_lst eqE_str
/-- lists of texts can be sorted -/
theorem plL_strs (l : List Str) : plL (l.map D.str) = true := by rw [plL_all, List.all_map]; exact List.all_eq_true.mpr fun _ _ => rfl
theorem alike_strs : ∀ a b : List Str, PySem.W.alikeAll (toPyL (a.map D.str)) (toPyL (b.map D.str)) = true
  | [], _ => by rw [List.map_nil, toPyL, PySem.W.alikeAll]
  | _ :: _, [] => by rw [List.map_nil, toPyL, List.map_cons, toPyL, PySem.W.alikeAll]
  | a :: as, b :: bs => by
    rw [List.map_cons, List.map_cons, toPyL, toPyL, PySem.W.alikeAll, alike_strs as bs]; rfl
theorem depth_strs (l : List Str) : PyData.depthAll (toPyL (l.map D.str)) = 0 := by
  induction l with
  | nil => rfl
  | cons a as ih =>
    show max (PyData.depth (.str a)) (PyData.depthAll (toPyL (as.map D.str))) = 0
    rw [ih]; rfl
theorem srtOk_dS (ls : List (List Str)) : srtOk (ls.map dS) := by
  refine ⟨fun d hd d' hd' => ?_, .inr fun d hd => ?_, ?_, fun d hd => ?_⟩
  · rw [List.map_map] at hd hd'
    obtain ⟨x, _, rfl⟩ := List.mem_map.mp hd
    obtain ⟨y, _, rfl⟩ := List.mem_map.mp hd'
    exact alike_strs x y
  · rw [List.map_map] at hd
    obtain ⟨x, _, rfl⟩ := List.mem_map.mp hd
    exact ⟨(fun h => by cases h), (fun xs h => by cases h)⟩
  · rw [List.all_map]
    exact List.all_eq_true.mpr fun x _ => plL_strs x
  · obtain ⟨x, _, rfl⟩ := List.mem_map.mp hd
    show PyData.depthAll (toPyL (x.map D.str)) + 1 ≤ 60
    rw [depth_strs]; omega
theorem meF_perm (ms : List Stp) : (meF ms).Perm ((meG ms).map dS) := List.mergeSort_perm _ _
theorem meF_ly {n : Nat} {ms : List Stp} (h : IsScr ms) : ly (n + 2) (.lst (meF ms)) := ly_lst fun d hd => by
  obtain ⟨l, hl, rfl⟩ := List.mem_map.mp ((meF_perm ms).mem_iff.mp hd)
  unfold meG at hl
  obtain ⟨x, hx, rfl⟩ := List.mem_map.mp (List.mem_filter.mp hl).1
  exact ly_dS (soF_lab h (nmF_lab h x hx))
end Vl
namespace Vl
open PySem PySem.Spec L2
open PyProof.Rows hiding St

/-! ### a, b = x, y by a pair that is really made (names that are captured) -/
section
variable {X : Cx} {a b c : Expr} {fa fb fc : WE} {pos pt pt2 px py pz : Pos} {kt k2} {x y z : Str}
theorem ds_tupO (i j : Nat) (hN : X.N.Nodup) (ha : DE X a fa) (hb : DE X b fb) (hc : X.calm = true := by rfl) (hi : X.N[i]? = some x := by rfl) (hj : X.N[j]? = some y := by rfl) (hij : i ≠ j := by decide)
    (hx : Loc X.env.scope x := by first | exact Or.inl rfl | exact Or.inr rfl) (hy : Loc X.env.scope y := by first | exact Or.inl rfl | exact Or.inr rfl)
    (hfx : X.fn x = true ∨ X.env.scope.names.lookup x = some .local := by first | exact .inl rfl | exact .inr rfl) (hfy : X.fn y = true ∨ X.env.scope.names.lookup y = some .local := by first | exact .inl rfl | exact .inr rfl)
    (hw : swappedStores [.Tuple [.Name x px, .Name y py] kt pt] (.Tuple [a, b] k2 pt2) X.env = pure none := by rfl)
    (hs : swapsWithSole [.Tuple [.Name x px, .Name y py] kt pt] (.Tuple [a, b] k2 pt2) pos.line X.env = pure false := by rfl)
    (h1 : (assignEach [.Tuple [.Name x px, .Name y py] kt pt] X.env).map (·.2) = [assign (.Tuple [.Name x px, .Name y py] kt pt) X.env] := by rfl)
    (g1 : (assignEach (.Name x px :: [.Name y py]) X.env).map (·.2) = assign (.Name x px) X.env :: (assignEach [.Name y py] X.env).map (·.2) := by rfl)
    (g2 : (assignEach (.Name y py :: []) X.env).map (·.2) = assign (.Name y py) X.env :: (assignEach [] X.env).map (·.2) := by rfl)
    (hn : (assignEach [.Name x px, .Name y py] X.env).length = 2 := by rfl) (hst : (assignEach [.Name x px, .Name y py] X.env).findIdx? (·.1) = none := by rfl)
    (s1 : starEach [a, b] X.env = (false, eval a X.env) :: starEach [b] X.env := by rfl) (s2 : starEach [b] X.env = (false, eval b X.env) :: starEach [] X.env := by rfl) :
    DS X (.Assign [.Tuple [.Name x px, .Name y py] kt pt] (.Tuple [a, b] k2 pt2) pos) (sParO i j fa fb) := by
  obtain ⟨ta, pa, ka⟩ := ha
  obtain ⟨tb, pb, kb⟩ := hb
  refine ⟨_, ps_asg (pe_tup (pa_cons pa (pa_cons pb pa_nil s2) s1)) (pg_tup hc (pgs_cons (pg_name hN hi hx hfx) (pgs_cons (pg_name hN hj hy hfy) pgs_nil g2) g1) hn hst) hs hw h1, fun B R w σ H ss E D o hw l => ka B R w σ H ss _ _ o hw fun v H1 ra sa wa oa rra ea h1 => ?_⟩
  obtain ⟨ra, s1, w1, o1, e1, r1, n1, h1⟩ := prep_ok oa rra h1
  obtain ⟨B', R', o1', hB, hR, back⟩ := o1.holdS n1 r1
  refine kb B' R' w1 σ H1 s1 _ _ o1' h1 fun u H2 rb sb wb ob rrb eb h2 => ?_
  obtain ⟨rb, s2, w2, o2, e2, r2, n2, h2⟩ := prep_ok ob rrb h2
  obtain ⟨B2, R2, o2', hB2, hR2, back2⟩ := o2.holdS n2 r2
  refine ⟨show 2 ≤ sizeLine by decide, fun p hp => ⟨p, [v, u], rfl, .inl (.inl upd_same), rfl, ⟨v, [u], rfl, ⟨u, [], rfl, ⟨rfl, ?_⟩⟩⟩⟩⟩
  have og := o2'.grow (H' := L2.upd H2 p (.tup [v, u])) fun b x e => by rw [L2.upd_ne (ne_of_none e hp)]; exact e
  obtain ⟨og, rg⟩ := back2 w2 _ _ s2 og (.refl w2)
  obtain ⟨s3, w3, o3, e3, h3⟩ := set_ok og rg h2
  obtain ⟨o3', r3'⟩ := back w3 _ _ s3 o3 (eb.trans (e2.trans e3))
  obtain ⟨s4, w4, o4, e4, h4⟩ := set_ok o3' r3' h3
  rw [List.set_comm _ _ hij]
  exact l.nx _ _ s4 w4 o4 (ea.trans (e1.trans (eb.trans (e2.trans (e3.trans e4))))) h4
end
end Vl
namespace Vl
open PySem PySem.Spec L2
open PyProof.Rows hiding St

/-! ### more methods: insert, index, get, pop -/
section
variable {X : Cx} {o e e2 : Expr} {pos apos cpos : Pos} {fo fi fe fx : WE} {fv : WV}
/-- o.insert(i, d) -/
def insC (c : C) (i : Int) (d : D) (k : C → D → Prop) : Prop := match c with
  | .lst xs => xs.length < sizeLine ∧ 0 ≤ i ∧ i < 2 ^ 63 ∧ k (.lst (xs.take i.toNat ++ [d] ++ xs.drop i.toNat)) .non
  | _ => False
def fIns (fo fi : WE) (fv : WV) : WE := fun ss G => fo ss fun ro s => isLst ro s ∧ fi s fun ri s => isI ri fun i => fv s fun d s => onC ro s (fun c k => insC c i d k) fun d' s => G (.val d') s
theorem isI_rep {B : Hp} {R : Addr → Prop} {w : Wd} {σ : St} {H : Hp} {ss : SS} {r : Re} {v : V} (h : RepR B R w σ H ss r v) {k : Int → Prop} (hk : isI r k) : ∃ i, v = .int i ∧ k i := by
  cases r with
  | val d =>
    cases d with
    | int i => exact ⟨i, h, hk⟩
    | _ => exact hk.elim
  | _ => exact hk.elim
theorem de_insert (ho : DE X o fo) (hi : DE X e fi) (he : DV X e2 fv) (m : M2 X o "insert" apos e e2 cpos := by exact ⟨rfl, rfl, rfl, rfl⟩) (hs : starEach [e, e2] X.env = (false, eval e X.env) :: starEach [e2] X.env := by rfl) (hs2 : starEach [e2] X.env = (false, eval e2 X.env) :: starEach [] X.env := by rfl) (hpl : (backTo cpos (starEach [e2] X.env)).any (·.1) = false := by rfl) : DE X (.Call (.Attribute o "insert" apos) [e, e2] [] cpos) (fIns fo fi fv) := by
  obtain ⟨t1, p1, h1⟩ := ho
  obtain ⟨t2, p2, h2⟩ := hi
  obtain ⟨t3, p3, h3⟩ := he
  refine ⟨_, pe_bm PySem.F.plainAttrs_list PySem.F.slot_list_insert PySem.F.type_list_insert mt_insert p1 (pa_cons p2 (pa_cons p3 pa_nil hs2) hs) m.base m.few m.line hs hpl, fun B R w σ H ss G Q ok hw hq => h1 B R w σ H ss _ _ ok hw fun x H1 ro s1 w1 o1 r1 e1 ⟨hl, g1⟩ => ⟨ty_lst o1 r1 hl, ?_⟩⟩
  obtain ⟨B', R', o1', hB, hR, back⟩ := o1.hold r1
  refine h2 B' R' w1 σ H1 s1 _ _ o1' g1 fun y H2 ri s2 w2 o2 r2 e2 g2 => ?_
  obtain ⟨i, rfl, g2⟩ := isI_rep r2 g2
  refine h3 B' R' w2 σ H2 s2 _ _ o2 g2 fun z H3 d s3 w3 o3 r3 e3 g3 => ?_
  obtain ⟨o3', r1'⟩ := back w3 H3 s3 o3 (e2.trans e3)
  obtain ⟨a, c, st, rfl, hc, hst, hk⟩ := onC_ok o3' r1' g3
  cases c with
  | lst xs =>
    obtain ⟨vs, ev, rv⟩ := hc
    refine ⟨a, vs, i, z, rfl, rfl, ev, by rw [rv.length]; exact hk.1, hk.2.1, hk.2.2.1, ?_⟩
    have hx : Cel w3 (upd H3 a (.lst (vs.take i.toNat ++ [z] ++ vs.drop i.toNat))) a (.lst (xs.take i.toNat ++ [d] ++ xs.drop i.toNat)) := ⟨_, upd_same, ((rv.take _).append (es := [d]) ⟨z, [], rfl, r3, rfl⟩).append (rv.drop _)⟩
    exact hq _ _ (.val .non) (st _) w3 (hst _ _ hx) rfl (e1.trans (e2.trans e3)) hk.2.2.2
  | dic _ => exact hk.elim
/-- o.m(e) of a list, that changes nothing -/
def MethX (X : Cx) (r : V → List V → Hp → VK → Prop) (k : KK) : Prop := ∀ (w : Wd) (H : Hp) (a b : D) (x y : V) (P : Re → Prop) (Q : VK), Le w H → RepT w H a x → RepT w H b y → k a b P → Fin w H P Q → r x [y] H Q
def fM1q (k : KK) (fo fe : WE) : WE := fun ss G => fo ss fun ro s => isLst ro s ∧ fe s fun re s => vw ro s fun a => vw re s fun b => k a b fun d => G d s
theorem de_m1q {name : Str} {id : String} {r : V → List V → Hp → VK → Prop} {k : KK} (slot : Slot "list" name id) (hty : typeOf (.builtin id) = pure (.type "method_descriptor")) (hm : MtR X id r) (hk : MethX X r k)
    (ho : DE X o fo) (he : DE X e fe) (m : M1 X o name apos e cpos) (hs : starEach [e] X.env = [(false, eval e X.env)]) : DE X (.Call (.Attribute o name apos) [e] [] cpos) (fM1q k fo fe) := by
  obtain ⟨t1, p1, h1⟩ := ho
  obtain ⟨t2, p2, h2⟩ := he
  refine ⟨_, pe_bm PySem.F.plainAttrs_list slot hty hm p1 (pa_cons p2 pa_nil hs) m.base m.few m.line hs rfl, fun B R w σ H ss G Q ok hw hq => h1 B R w σ H ss _ _ ok hw fun x H1 ro s1 w1 o1 r1 e1 ⟨hl, g1⟩ => ⟨ty_lst o1 r1 hl, ?_⟩⟩
  obtain ⟨B', R', o1', hB, hR, back⟩ := o1.hold r1
  refine h2 B' R' w1 σ H1 s1 _ _ o1' g1 fun y H2 re s2 w2 o2 r2 e2 g2 => ?_
  obtain ⟨o2', r1'⟩ := back w2 H2 s2 o2 e2
  obtain ⟨a, ra, g2⟩ := vw_ok o2' r1' g2
  obtain ⟨b, rb, g2⟩ := vw_ok o2' (r2.weak hB hR) g2
  exact hk w2 H2 a b x y _ Q o2'.le ra rb g2 (fin_of o2' (e1.trans e2) (fun _ h => h) hq)
/-- the first place of an item -/
def firstAt (xs : List D) (d : D) (j : Nat) : Prop := ∃ z, xs[j]? = some z ∧ eqD z d = true ∧ ∀ (m : Nat) (z' : D), m < j → xs[m]? = some z' → eqD z' d = false
def kIdx : KK := fun a b P => match a with
  | .lst xs => flatD b = true ∧ xs.all flatD = true ∧ ∃ j : Nat, firstAt xs b j ∧ P (.val (.int j))
  | _ => False
theorem mx_idx : MethX X (rIndex X.K) kIdx := fun w H a b x y P Q le ra rb hk hq => by
  unfold kIdx at hk
  split at hk
  · rename_i xs
    obtain ⟨f1, f2, j, ⟨z, g1, g2, g3⟩, hp⟩ := hk
    obtain ⟨l, vs, rfl, h1, h2⟩ := (show ∃ a vs, x = .ref a ∧ Rd H a (.lst vs) ∧ RepL w _ vs from ra)
    have rb' := flat_repT f1 rb
    have fa : ∀ d ∈ xs, flatD d = true := List.all_eq_true.mp f2
    obtain ⟨v, e1, e2⟩ := h2.get g1
    refine ⟨l, vs, y, j, v, rfl, rfl, .inl h1, flat_rep f1 rb', (inL_rep f1 rb' f2 h2).1, e1, ?_, fun m z' hm hz => ?_, hq.old _ (.int j) rfl hp⟩
    · rw [flat_eq (fa z (List.mem_of_getElem? g1)) f1 e2 rb']; exact g2
    · obtain ⟨d', q1, q2⟩ := h2.getV hz
      rw [flat_eq (fa d' (List.mem_of_getElem? q1)) f1 q2 rb']; exact g3 m d' hm q1
  · exact hk.elim
theorem de_index (ho : DE X o fo) (he : DE X e fe) (m : M1 X o "index" apos e cpos := by exact ⟨rfl, rfl, rfl, rfl⟩) (hs : starEach [e] X.env = [(false, eval e X.env)] := by rfl) : DE X (.Call (.Attribute o "index" apos) [e] [] cpos) (fM1q kIdx fo fe) :=
  de_m1q PySem.F.slot_list_index PySem.F.type_list_index mt_index mx_idx ho he m hs
/-- d.get(k, x) -/
def isDic (ro : Re) (s : SS) : Prop := vw ro s fun d => match d with
  | .dic _ => True
  | _ => False
theorem ty_dic {B : Hp} {R : Addr → Prop} {w : Wd} {σ : St} {H : Hp} {ss : SS} (o : Ok B R w σ H ss) {ro : Re} {v : V} (h : RepR B R w σ H ss ro v) (hl : isDic ro ss) : ∃ a, v = .ref a ∧ IsD H a := by
  obtain ⟨d, rd, hd⟩ := vw_ok o h hl
  cases d with
  | dic xs => obtain ⟨a, vs, rfl, h1, _⟩ := rd; exact ⟨a, rfl, .inl ⟨vs, h1⟩⟩
  | _ => exact hd.elim
def getD2 (d b : D) (r : Re) (k : Re → Prop) : Prop := match d with
  | .dic kvs => ∃ key, keyOf b = some key ∧ (match valD kvs key with
    | some v => k (.val v)
    | none => k r)
  | _ => False
def fGet2 (fo fe fx : WE) : WE := fun ss G => fo ss fun ro s => isDic ro s ∧ fe s fun re s => fz re s fun b s => fx s fun rx s => vw ro s fun d => getD2 d b rx fun r => G r s
theorem de_get2 (hu : X.A.units + 1 < cLine) (ho : DE X o fo) (he : DE X e fe) (hx : DE X e2 fx) (m : M2 X o "get" apos e e2 cpos := by exact ⟨rfl, rfl, rfl, rfl⟩) : DE X (.Call (.Attribute o "get" apos) [e, e2] [] cpos) (fGet2 fo fe fx) := by
  obtain ⟨t1, p1, h1⟩ := ho
  obtain ⟨t2, p2, h2⟩ := he
  obtain ⟨t3, p3, h3⟩ := hx
  refine ⟨_, pe_dget2 hu p1 p2 p3 m, fun B R w σ H ss G Q ok hw hq => h1 B R w σ H ss _ _ ok hw fun x H1 ro s1 w1 o1 r1 e1 ⟨hl, g1⟩ => ?_⟩
  obtain ⟨a, rfl, hD⟩ := ty_dic o1 r1 hl
  refine ⟨a, rfl, hD, ?_⟩
  obtain ⟨B', R', o1', hB, hR, back⟩ := o1.hold r1
  refine h2 B' R' w1 σ H1 s1 _ _ o1' g1 fun y H2 re s2 w2 o2 r2 e2 g2 => ?_
  obtain ⟨b, s3, w3, o3, e3, rb, g3⟩ := fz_ok o2 r2 g2
  refine h3 B' R' w3 σ H2 s3 _ _ o3 g3 fun z H3 rx s4 w4 o4 r4 e4 g4 => ?_
  obtain ⟨o4', r1'⟩ := back w4 H3 s4 o4 (e2.trans (e3.trans e4))
  obtain ⟨d, rd, g4⟩ := vw_ok o4' r1' g4
  have r4' := r4.weak hB hR
  have ee := e1.trans (e2.trans (e3.trans e4))
  cases d with
  | dic kvs =>
    obtain ⟨key, hk, g5⟩ := g4
    obtain ⟨a', vs, q, hv, rv⟩ := rd
    cases q
    obtain rfl := keyOf_rep hk (rb.ext e4)
    obtain ⟨v1, v2⟩ := rv.val (k := key)
    refine ⟨valV vs key, .inl ⟨vs, key, hv, rfl, rfl⟩, ?_⟩
    cases q : valD kvs key with
    | none =>
      rw [v2 q]
      simp only [q] at g5
      exact hq _ _ rx s4 w4 o4' r4' ee g5
    | some dv =>
      obtain ⟨v, u1, u2⟩ := v1 dv q
      rw [u1]
      simp only [q] at g5
      exact hq _ _ (.val dv) s4 w4 o4' u2 ee g5
  | _ => exact g4.elim
/-- d.pop(k) -/
def popC (c : C) (b : D) (k : C → D → Prop) : Prop := match c with
  | .dic kvs => ∃ key v, keyOf b = some key ∧ valD kvs key = some v ∧ k (.dic (dropD kvs key)) v
  | _ => False
def fPop1 (fo fe : WE) : WE := fun ss G => fo ss fun ro s => isDic ro s ∧ fe s fun re s => fz re s fun b s => onC ro s (fun c k => popC c b k) fun d s => G (.val d) s
theorem de_pop1 (ho : DE X o fo) (he : DE X e fe) (m : M1 X o "pop" apos e cpos := by exact ⟨rfl, rfl, rfl, rfl⟩) : DE X (.Call (.Attribute o "pop" apos) [e] [] cpos) (fPop1 fo fe) := by
  obtain ⟨t1, p1, h1⟩ := ho
  obtain ⟨t2, p2, h2⟩ := he
  refine ⟨_, pe_dpop1 p1 p2 m, fun B R w σ H ss G Q ok hw hq => h1 B R w σ H ss _ _ ok hw fun x H1 ro s1 w1 o1 r1 e1 ⟨hl, g1⟩ => ?_⟩
  obtain ⟨a, rfl, hD⟩ := ty_dic o1 r1 hl
  refine ⟨a, rfl, hD, ?_⟩
  obtain ⟨B', R', o1', hB, hR, back⟩ := o1.hold r1
  refine h2 B' R' w1 σ H1 s1 _ _ o1' g1 fun y H2 re s2 w2 o2 r2 e2 g2 => ?_
  obtain ⟨b, s3, w3, o3, e3, rb, g3⟩ := fz_ok o2 r2 g2
  obtain ⟨o3', r1'⟩ := back w3 H2 s3 o3 (e2.trans e3)
  obtain ⟨a', c, st, q, hc, hst, hk⟩ := onC_ok o3' r1' g3
  cases q
  cases c with
  | lst _ => exact hk.elim
  | dic kvs =>
    obtain ⟨key, v, hk1, hk2, hk3⟩ := hk
    obtain ⟨vs, hv, rv⟩ := hc
    obtain rfl := keyOf_rep hk1 rb
    obtain ⟨vv, u1, u2⟩ := (rv.val (k := key)).1 v hk2
    exact ⟨vs, key, vv, hv, rfl, u1, hq _ _ (.val v) (st _) w3 (hst (.dic (dropD kvs key)) _ ⟨_, upd_same, rv.drop⟩) u2 (e1.trans (e2.trans e3)) hk3⟩
/-- str(n) -/
def kStr : KC := k1 fun d P => match d with
  | .int i => i.natAbs.log2 < 1920 ∧ P (.val (.str (toString i)))
  | _ => False
theorem cx_str : CallX (fun xs H Q => ∃ i : Int, xs = [.int i] ∧ i.natAbs.log2 < 1920 ∧ Q (.str (toString i)) H) kStr := callX1 fun w H d v P Q le rd hk hq => by
  split at hk
  · cases (show v = .int _ from rd)
    exact ⟨_, rfl, hk.1, hq.old _ (.str _) rfl hk.2⟩
  · exact hk.elim
variable {a : Expr} {p : Pos} {fr : WR}
theorem de_strI (hm : X.mg "str" = none) (hg : Gl X "str" := by rfl) (ha : DR X [a] fr) (he : starEach [a] X.env = [(false, eval a X.env)] := by rfl) : DE X (.Call (.Name "str" p) [a] [] pos) (fBlt kStr fr) :=
  de_bty call_str_int cx_str hm bt_str hg ha (by decide) (by decide) he rfl
/-- tuple(list) -/
def kTupL : KC := k1 fun d P => match d with
  | .lst xs => P (.val (.tup xs))
  | .tup xs => P (.val (.tup xs))
  | _ => False
theorem cx_tup : CallX (fun xs H Q => ∃ p ys, xs = [.ref p] ∧ ((SqL X.K H p ys ∧ ∀ l, H l = none → Q (.ref l) (upd H l (.tup ys))) ∨ (SqT X.K H p ys ∧ Q (.ref p) H))) kTupL := callX1 fun w H d v P Q le rd hk hq => by
  split at hk
  · obtain ⟨l, vs, rfl, h1, h2⟩ := (show ∃ a vs, v = .ref a ∧ Rd H a (.lst vs) ∧ RepL w _ vs from rd)
    exact ⟨l, vs, rfl, .inl ⟨.inl h1, fun p hp => hq.tup p _ _ hp h2 hk⟩⟩
  · rename_i xs
    obtain ⟨l, vs, rfl, h1, h2⟩ := (show ∃ a vs, v = .ref a ∧ w.F a = some (.tup vs) ∧ RepL w _ vs from rd)
    exact ⟨l, vs, rfl, .inr ⟨.inl (le _ _ h1), hq.old _ (.tup xs) ⟨l, vs, rfl, h1, h2⟩ hk⟩⟩
  · exact hk.elim
theorem de_tuple (hm : X.mg "tuple" = none) (hg : Gl X "tuple" := by rfl) (ha : DR X [a] fr) (he : starEach [a] X.env = [(false, eval a X.env)] := by rfl) : DE X (.Call (.Name "tuple" p) [a] [] pos) (fBlt kTupL fr) :=
  de_bty call_tuple_of cx_tup hm bt_tuple hg ha (by decide) (by decide) he rfl
end
section
variable {ss s : SS} {cc : C} {ff : C → (C → D → Prop) → Prop} {kd : D → SS → Prop} {xs ys : List D} {i : Int} {d b : D} {kc : C → D → Prop} {P : Re → Prop} {kvs : List (Key × D)} {x : Str} {r : Re} {kr : Re → Prop} {ro : Re} {o : Option D}
def mDic : D → Prop
  | .dic _ => True
  | _ => False
def optS (o : Option D) (r : Re) (k : Re → Prop) : Prop := match o with
  | some v => k (.val v)
  | none => k r
theorem x_on3 : onC (.new cc) ss ff kd = ff cc fun _ d => kd d ss := propext Iff.rfl
theorem x_ins : insC (.lst xs) i d kc = (xs.length < sizeLine ∧ 0 ≤ i ∧ i < 2 ^ 63 ∧ kc (.lst (xs.take i.toNat ++ [d] ++ xs.drop i.toNat)) .non) := propext Iff.rfl
theorem x_idx : kIdx (.lst xs) b P = (flatD b = true ∧ xs.all flatD = true ∧ ∃ j : Nat, firstAt xs b j ∧ P (.val (.int j))) := propext Iff.rfl
theorem x_isD : isDic ro ss = vw ro ss mDic := by
  unfold isDic
  refine congrArg (vw ro ss) (funext fun d => ?_)
  cases d <;> rfl
theorem x_mDic : mDic (.dic kvs) = True := rfl
theorem x_get2s : getD2 (.dic kvs) (.str x) r kr = optS (valD kvs (.inr x)) r kr := by
  unfold getD2 optS
  exact propext ⟨fun ⟨k, e, h⟩ => by cases e; exact h, fun h => ⟨_, rfl, h⟩⟩
theorem x_get2i : getD2 (.dic kvs) (.int i) r kr = optS (valD kvs (.inl i)) r kr := by
  unfold getD2 optS
  exact propext ⟨fun ⟨k, e, h⟩ => by cases e; exact h, fun h => ⟨_, rfl, h⟩⟩
theorem x_opt1 : optS (some d) r kr = kr (.val d) := propext Iff.rfl
theorem x_opt0 : optS none r kr = kr r := propext Iff.rfl
theorem x_popS : popC (.dic kvs) (.str x) kc = ∃ v, valD kvs (.inr x) = some v ∧ kc (.dic (dropD kvs (.inr x))) v := by
  unfold popC
  exact propext ⟨fun ⟨k, v, e, h⟩ => by cases e; exact ⟨v, h⟩, fun ⟨v, h⟩ => ⟨_, v, rfl, h⟩⟩
theorem x_strI : kStr [.int i] P = (i.natAbs.log2 < 1920 ∧ P (.val (.str (toString i)))) := propext Iff.rfl
theorem x_tupL : kTupL [.lst xs] P = P (.val (.tup xs)) := propext Iff.rfl
theorem x_tupT : kTupL [.tup xs] P = P (.val (.tup xs)) := propext Iff.rfl
end
end Vl
namespace Vl
open PySem PySem.Spec L2
open PyProof.Rows hiding St

/-! ### repr of plain data -/
structure Shk (n m : Nat) (d : D) : Prop where
  pl : plD d = true
  sh : (toPy d).showable = true
  nd : (toPy d).hasDict = false
  dp : (toPy d).depth ≤ n
  ln : (toPy d).shown.length ≤ m
theorem Shk.mono {n m n' m' : Nat} {d : D} (h : Shk n m d) (hn : n ≤ n') (hm : m ≤ m') : Shk n' m' d := ⟨h.pl, h.sh, h.nd, Nat.le_trans h.dp hn, Nat.le_trans h.ln hm⟩
theorem shk_non : Shk 0 4 .non := ⟨rfl, rfl, rfl, Nat.le_refl _, by show (Str.ofString "None").length ≤ 4; decide +kernel⟩
theorem shk_bl {b : Bool} : Shk 0 5 (.bl b) := ⟨rfl, rfl, rfl, Nat.le_refl _, by cases b <;> (show (Str.ofString _).length ≤ 5; decide +kernel)⟩
theorem shk_str {x : Str} (h : IsLab x) : Shk 0 402 (.str x) := by
  refine ⟨rfl, rfl, rfl, Nat.le_refl _, ?_⟩
  have := PySem.StrLaws.reprText_len x fun c hc => Nat.lt_of_lt_of_le (sgn_small c (h.sg c hc)) (by decide)
  have h2 := h.hi
  show (reprText x).length ≤ 402
  omega
theorem shkL {n m : Nat} : ∀ {ds : List D}, (∀ d ∈ ds, Shk n m d) → plL ds = true ∧ PyData.showableAll (toPyL ds) = true ∧ PyData.hasDictAll (toPyL ds) = false ∧ PyData.depthAll (toPyL ds) ≤ n ∧ ((PyData.shownAll (toPyL ds)).map (·.length)).sum ≤ m * ds.length ∧ (PyData.shownAll (toPyL ds)).length = ds.length
  | [], _ => ⟨rfl, rfl, rfl, Nat.zero_le _, by simp [toPyL, PyData.shownAll], rfl⟩
  | d :: ds, h => by
    obtain ⟨a1, a2, a3, a4, a5, a6⟩ := shkL fun e he => h e (List.mem_cons_of_mem _ he)
    have b := h d List.mem_cons_self
    refine ⟨?_, ?_, ?_, ?_, ?_, ?_⟩
    · show (plD d && plL ds) = true
      rw [a1, b.pl]; rfl
    · show (PyData.showable (toPy d) && PyData.showableAll (toPyL ds)) = true
      rw [a2, b.sh]; rfl
    · show (PyData.hasDict (toPy d) || PyData.hasDictAll (toPyL ds)) = false
      rw [a3, b.nd]; rfl
    · show PyData.depthAll (toPy d :: toPyL ds) ≤ n
      unfold PyData.depthAll
      have := b.dp
      omega
    · show (((toPy d).shown :: PyData.shownAll (toPyL ds)).map (·.length)).sum ≤ _
      rw [List.map_cons, List.sum_cons, List.length_cons, Nat.mul_add]
      have := b.ln
      omega
    · show ((toPy d).shown :: PyData.shownAll (toPyL ds)).length = _
      rw [List.length_cons, List.length_cons, a6]
theorem shk_lst {n m k : Nat} {ds : List D} (h : ∀ d ∈ ds, Shk n m d) (hk : ds.length ≤ k) : Shk (n + 1) ((m + 2) * k + 3) (.lst ds) := by
  obtain ⟨a1, a2, a3, a4, a5, a6⟩ := shkL h
  refine ⟨a1, a2, a3, ?_, ?_⟩
  · show PyData.depth (.list (toPyL ds)) ≤ n + 1
    unfold PyData.depth
    omega
  · show (listText (PyData.shownAll (toPyL ds))).length ≤ _
    refine Nat.le_trans (listText_len_le _) ?_
    rw [a6]
    have h1 : (m + 2) * ds.length ≤ (m + 2) * k := Nat.mul_le_mul_left _ hk
    have h2 : (m + 2) * ds.length = m * ds.length + 2 * ds.length := Nat.add_mul _ _ _
    generalize (m + 2) * k = y at h1 ⊢
    generalize (m + 2) * ds.length = z at h1 h2
    generalize m * ds.length = u at h2 a5
    omega
theorem shk_tup {n m k : Nat} {ds : List D} (h : ∀ d ∈ ds, Shk n m d) (hk : ds.length ≤ k) : Shk (n + 1) ((m + 2) * k + 3) (.tup ds) := by
  obtain ⟨a1, a2, a3, a4, a5, a6⟩ := shkL h
  refine ⟨a1, a2, a3, ?_, ?_⟩
  · show PyData.depth (.tuple (toPyL ds)) ≤ n + 1
    unfold PyData.depth
    omega
  · show (tupleText (PyData.shownAll (toPyL ds))).length ≤ _
    refine Nat.le_trans (tupleText_len_le _) ?_
    rw [a6]
    have h1 : (m + 2) * ds.length ≤ (m + 2) * k := Nat.mul_le_mul_left _ hk
    have h2 : (m + 2) * ds.length = m * ds.length + 2 * ds.length := Nat.add_mul _ _ _
    generalize (m + 2) * k = y at h1 ⊢
    generalize (m + 2) * ds.length = z at h1 h2
    generalize m * ds.length = u at h2 a5
    omega
def showOk (d : D) : Prop := plD d = true ∧ (toPy d).showable = true ∧ (toPy d).hasDict = false ∧ (toPy d).depth ≤ 60 ∧ (toPy d).shown.length ≤ sizeLine
theorem Shk.ok {n m : Nat} {d : D} (h : Shk n m d) (hn : n ≤ 60 := by decide) (hm : m ≤ sizeLine := by decide) : showOk d := ⟨h.pl, h.sh, h.nd, Nat.le_trans h.dp hn, Nat.le_trans h.ln hm⟩
def shownD (d : D) : Str := (toPy d).shown
def rRepr (K : PySem.W.Frag) : List V → Hp → VK → Prop := fun vs H Q => ∃ (v : V) (d : PyData), vs = [v] ∧ Dp K H v d ∧ d.showable = true ∧ d.hasDict = false ∧ d.depth ≤ 60 ∧ d.shown.length ≤ sizeLine ∧ Q (.str d.shown) H
section
variable {X : Cx} {a : Expr} {p pos : Pos} {fr : WR}
theorem bt_repr : bootBuiltins "repr" = some (.builtin "repr") := by decide +kernel
theorem cr_repr (hgd : X.A.guards = some []) (hu : X.A.units + 64 < cLine) : CallR X (.builtin "repr") (rRepr X.K) := by
  intro pins s σ H vs us Q I r h
  obtain ⟨v, d, rfl, hd, h1, h2, h3, h4, q⟩ := h
  obtain ⟨u, rfl, ru⟩ := vals1 r
  have rd := Dp.reads I d v u hd ru
  have big : ∀ {c : Addr} {as : List Addr}, u = .ref c → Reads s.heap (.ref c) d as → wpAny (model X.prog X.w) X.A (call (.builtin "repr") [.ref c]) (EP X pins σ Q) X.xe s := fun {c as} e rr =>
    repr_of_reads' rr h1 (PyData.noDict_hsm h2) hgd (by omega) (fun _ _ e => e) (fun h' y tk hk => ⟨.str d.shown, H, I.kept hk, ⟨_, rfl⟩, q⟩) h4
  cases hd with
  | non => cases ru; exact PySem.P.repr_of_none ⟨.str _, H, I.tok _, ⟨_, rfl⟩, q⟩
  | bl b => cases ru; exact PySem.P.repr_of_bool ⟨.str _, H, I.tok _, ⟨_, rfl⟩, q⟩
  | int i =>
    obtain ⟨t, rfl⟩ := ru
    exact PySem.P.repr_of_int (of_decide_eq_true h1) ⟨.str _, H, I.tok _, ⟨_, rfl⟩, q⟩
  | str x => obtain ⟨t, rfl⟩ := ru; exact PySem.P.repr_of_str ⟨.str _, H, I.tok _, ⟨_, rfl⟩, q⟩ h4
  | lst _ _ => cases ru; obtain ⟨as, rr⟩ := rd; exact big rfl rr
  | tup _ _ => cases ru; obtain ⟨as, rr⟩ := rd; exact big rfl rr
theorem repT_dpP {K : PySem.W.Frag} {w : Wd} {H : Hp} (le : Le w H) {d : D} {v : V} (h : RepT w H d v) (z : plD d = true) : Dp K H v (toPy d) := by
  cases d with
  | lst ds => obtain ⟨a, vs, e1, e2, r⟩ := h; subst e1; exact .lst (.inl e2) (repL_dpP le ds vs r z)
  | dic ds => cases z
  | non => exact rep_dpP le _ v h z
  | bl _ => exact rep_dpP le _ v h z
  | int _ => exact rep_dpP le _ v h z
  | str _ => exact rep_dpP le _ v h z
  | tup _ => exact rep_dpP le _ v h z
  | loc _ => cases z
  | raw _ => cases z
def kRepr : KC := k1 fun d P => showOk d ∧ P (.val (.str (shownD d)))
theorem cx_repr : CallX (rRepr X.K) kRepr := callX1 fun w H d v P Q le rd hk hq =>
  ⟨v, toPy d, rfl, repT_dpP le rd hk.1.1, hk.1.2.1, hk.1.2.2.1, hk.1.2.2.2.1, hk.1.2.2.2.2, hq.old _ (.str _) rfl hk.2⟩
theorem de_repr {k : Nat} (hr : RoomG k X.A) (hm : X.mg "repr" = none) (hg : Gl X "repr" := by rfl) (ha : DR X [a] fr) (he : starEach [a] X.env = [(false, eval a X.env)] := by rfl) : DE X (.Call (.Name "repr" p) [a] [] pos) (fBlt kRepr fr) :=
  de_blt (cr_repr hr.gd hr.units) cx_repr hm bt_repr hg ha (by decide) (by decide) he rfl
theorem x_repr {d : D} {P : Re → Prop} : kRepr [d] P = (showOk d ∧ P (.val (.str (shownD d)))) := propext Iff.rfl
end
end Vl
namespace Vl
open PySem PySem.Spec L2
open PyProof.Rows hiding St

/-! ### sets of texts that are made of a list -/
def keyT (e : Int × Value) : Str := match e.2 with
  | .str x _ => x
  | _ => Str.empty
def TxE (w : World) (e : Int × Value) : Prop := ∃ x u, e.2 = Value.str x u ∧ e.1 = hashStr w x
/-- the set at a holds just the texts ks -/
def SetT (w : World) (h : Heap) (a : Addr) (ks : List Str) : Prop :=
  ∃ o es ep t, h.get? a = some o ∧ o.ExactSet ∧ o.data = .set es ep t ∧ (∀ e ∈ es.toList, TxE w e) ∧ (es.toList.map keyT).Perm ks ∧ ks.Nodup ∧
    es.size < scanBound ∧ t.fits es.size = true ∧ Ris t.place.toList ∧ (w.params.followText "set-order" = true ∨ t.led = true)
section
variable {P : Program} {w : World} {A : Around} {E : Value → Shared → Prop} {s : Shared} {a : Addr} {ks : List Str}
theorem txE_elems {l : List (Int × Value)} (g : ∀ e ∈ l, TxE w e) : ElemsOf (strKind P w) l := fun e he => by
  obtain ⟨x, u, e1, e2⟩ := g e he
  exact ⟨⟨x, by rw [e1]; exact strKind_is P w x u, e2⟩, by rw [e1]; rfl⟩
theorem txE_is {e : Int × Value} (g : TxE w e) (x : Str) : (strKind P w).is x e.2 = true ↔ keyT e = x := by
  obtain ⟨y, u, e1, _⟩ := g
  unfold keyT
  rw [e1]
  show ((y == x) = true) ↔ y = x
  exact beq_iff_eq
theorem txE_mem {l : List (Int × Value)} (g : ∀ e ∈ l, TxE w e) (x : Str) : x ∈ l.map keyT ↔ ∃ e ∈ l, (strKind P w).is x e.2 = true := by
  rw [List.mem_map]
  exact ⟨fun ⟨e, he, q⟩ => ⟨e, he, (txE_is (g e he) x).2 q⟩, fun ⟨e, he, q⟩ => ⟨e, he, (txE_is (P := P) (g e he) x).1 q⟩⟩
/-- the end of an add, whether the table is laid anew or not -/
theorem addT_end {gv : Bool → Sem Unit} (hgv : ∀ (b : Bool) (t₁ : Shared) (Z : Unit → Shared → Prop), Z () t₁ → wpAny (model P w) A (gv b) Z E t₁)
    {o : Obj} {es : Array (Int × Value)} {ep : Nat} {t : SetTable} (at0 : s.heap.get? a = some o) (ex : o.ExactSet) (dat : o.data = .set es ep t)
    {es1 : Array (Int × Value)} {t2 : SetTable} {ms : List Str} (g1 : ∀ e ∈ es1.toList, TxE w e) (pm1 : (es1.toList.map keyT).Perm ms) (nd1 : ms.Nodup)
    (few : es1.size < scanBound) (fit : t2.fits es1.size = true) (ris : Ris t2.place.toList) (led : w.params.followText "set-order" = true ∨ t2.led = true) {dm : Bool} {R : Option Bool → Shared → Prop}
    (hR : ∀ h', Heap.SameBut a s.heap h' → SetT w h' a ms → R (some true) { s with heap := h' }) :
    wpAny (model P w) A (do
        storeSet a es1 t2
        if (!dm && t2.tooFull) = true then do
            gv (relayAll t2 es1 (SetTable.grown es1.size)).2.2
            storeSet a (relayAll t2 es1 (SetTable.grown es1.size)).1 (relayAll t2 es1 (SetTable.grown es1.size)).2.1
            pure (some true)
          else pure (some true)) R E s := by
  refine wpAny_bind (wpAny_storeSet_of at0 dat ?_ (fits_of_scanBound few))
  have at1 := store_at (es' := es1) (t' := t2) at0 dat
  have same1 := Heap.SameBut.update s.heap a (Obj.putSet es1 t2)
  split
  · have p2 := relayAll_perm t2 es1 (SetTable.grown es1.size)
    have fit2 := relayAll_fits t2 es1 (SetTable.grown es1.size)
    have ris2 := relayAll_ris t2 es1 (SetTable.grown es1.size)
    have led2 := relayAll_led t2 es1 (SetTable.grown es1.size)
    generalize relayAll t2 es1 (SetTable.grown es1.size) = W at p2 fit2 ris2 led2 ⊢
    obtain ⟨es2, t3, gave⟩ := W
    dsimp only at p2 fit2 ris2 led2 ⊢
    have few2 : es2.size < scanBound := by rw [← Array.length_toList, p2.length_eq, Array.length_toList]; exact few
    refine wpAny_bind (hgv _ _ _ ?_)
    refine wpAny_bind (wpAny_storeSet_of at1 rfl ?_ (fits_of_scanBound few2))
    refine wpAny_pure (hR _ (same1.trans (Heap.SameBut.update _ a _)) ?_)
    exact ⟨_, es2, _, t3, store_at (es' := es2) (t' := t3) at1 rfl, ex, rfl, fun e he => g1 e (p2.mem_iff.mp he), (p2.map keyT).trans pm1, nd1, few2, fit2, ris2, led.imp id fun z => by rw [led2]; exact z⟩
  · exact wpAny_pure (hR _ same1 ⟨_, es1, _, t2, at1, ex, rfl, g1, pm1, nd1, few, fit, ris, led⟩)
theorem addT {x : Str} {u : Tok} {Q : Bool → Shared → Prop} (T : SetT w s.heap a ks) (room : ks.length + 1 < scanBound)
    (hQ : ∀ h', Heap.SameBut a s.heap h' → SetT w h' a (uqF ks x) → ∀ b, Q b { s with heap := h' }) : wpAny (model P w) A (setAddHashed a (.str x u) ((strKind P w).hash x)) Q E s := by
  obtain ⟨o, es, ep, t, at0, ex, dat, g, pm, nd, few, fit, ris, led⟩ := T
  have isx : (strKind P w).is x (.str x u) = true := strKind_is P w x u
  have scn : (Value.str x u).scannable = true := rfl
  have els : ElemsOf (strKind P w) es.toList := txE_elems g
  unfold setAddHashed setAddHashedIn
  refine wpAny_holding (wpAny_bind (wpAny_setState_of at0 dat fit ?_))
  dsimp only
  rw [byScan_of scn few els]
  simp only [↓reduceIte]
  unfold setAddByScan
  refine wpAny_bind ?_
  refine wpAny_bind (wpAny_rule ?_)
  refine wpAny_bind (wpAny_setScan_of isx at0 dat fit els ?_)
  cases found : List.findIdx? (fun e => (strKind P w).is x e.2) es.toList with
  | some j =>
    dsimp only
    obtain ⟨lt, pj, _⟩ := List.findIdx?_eq_some_iff_getElem.mp found
    have inx : x ∈ ks := pm.mem_iff.mp ((txE_mem (P := P) (w := w) g x).2 ⟨es.toList[j], List.getElem_mem lt, pj⟩)
    have e0 : uqF ks x = ks := if_pos inx
    refine wpAny_pure (wpAny_pure ?_)
    exact hQ s.heap (Heap.SameBut.refl a s.heap) (by rw [e0]; exact ⟨o, es, ep, t, at0, ex, dat, g, pm, nd, few, fit, ris, led⟩) _
  | none =>
    dsimp only
    have nin : x ∉ es.toList.map keyT := fun z => by
      obtain ⟨e, he, q⟩ := (txE_mem (P := P) (w := w) g x).1 z
      have c := List.findIdx?_eq_none_iff.mp found e he
      rw [q] at c
      cases c
    have ninx : x ∉ ks := fun z => nin (pm.mem_iff.mpr z)
    have e0 : uqF ks x = ks ++ [x] := if_neg ninx
    have way : ∀ (b : Bool) {t₁ : Shared} {Z : Unit → Shared → Prop}, Z () t₁ → wpAny (model P w) A (match b with | true => rule "set.scan.the-table-gave-way" | false => pure ()) Z E t₁ :=
      fun b t₁ Z q => by cases b <;> first | exact wpAny_pure q | exact wpAny_rule q
    have p1 := layNew_perm t es ((strKind P w).hash x) (.str x u)
    have fit1 := layNew_fits t es ((strKind P w).hash x) (.str x u)
    have ris1 := layNew_ris t es ((strKind P w).hash x) (.str x u) ris
    have led1 := layNew_led t es ((strKind P w).hash x) (.str x u)
    generalize layNew t es ((strKind P w).hash x) (.str x u) = W at p1 fit1 ris1 led1 ⊢
    obtain ⟨es1, t1, dm, gave⟩ := W
    dsimp only at p1 fit1 ris1 led1 ⊢
    rw [Array.toList_push] at p1
    have g1 : ∀ e ∈ es1.toList, TxE w e := fun e he => by
      rcases List.mem_append.mp (p1.mem_iff.mp he) with z | z
      · exact g e z
      · rw [List.mem_singleton.mp z]; exact ⟨x, u, rfl, rfl⟩
    have pk : (es1.toList.map keyT).Perm (uqF ks x) := by
      rw [e0]
      have := p1.map keyT
      rw [List.map_append] at this
      exact this.trans (pm.append_right _)
    have nd1 : (uqF ks x).Nodup := nodup_uqF nd
    have few1 : es1.size < scanBound := by
      have e1 := pk.length_eq
      rw [e0, List.length_map, Array.length_toList, List.length_append, List.length_singleton] at e1
      omega
    have led' : w.params.followText "set-order" = true ∨ t1.led = true := led.imp id fun z => by rw [led1]; exact z
    have fin : ∀ h', Heap.SameBut a s.heap h' → SetT w h' a (uqF ks x) → Q true { s with heap := h' } := fun h' sb r => hQ h' sb r true
    refine wpAny_bind (way _ ?_)
    split
    · refine wpAny_bind ?_
      rw [hashByValue_scannable 8 scn]
      refine wpAny_pure ?_
      refine addT_end ?_ at0 ex dat g1 pk nd1 few1 ?_ ?_ ?_ ?_
      · intro b t₁ Z q; cases b <;> first | exact wpAny_pure q | exact wpAny_rule q
      · first | (split <;> first | exact fit1 | exact SetTable.fits_plain_off fit1) | exact fit1
      · first | (split <;> exact ris1) | exact ris1
      · first | (split <;> exact led') | exact led'
      · intro h' sb r; dsimp only; exact wpAny_pure (fin h' sb r)
    · refine wpAny_bind (wpAny_pure ?_)
      simp only [↓reduceIte]
      refine addT_end ?_ at0 ex dat g1 pk nd1 few1 fit1 ris1 led' ?_
      · intro b t₁ Z q; cases b <;> first | exact wpAny_pure q | exact wpAny_rule q
      · intro h' sb r; dsimp only; exact wpAny_pure (fin h' sb r)
end
end Vl
namespace Vl
open PySem PySem.Spec L2
open PyProof.Rows hiding St

theorem SetT.at {w : World} {h h' : Heap} {a : Addr} {ks : List Str} (T : SetT w h a ks) (k : ∀ o, h.get? a = some o → h'.get? a = some o) : SetT w h' a ks := by
  obtain ⟨o, es, ep, t, at0, r⟩ := T
  exact ⟨o, es, ep, t, k o at0, r⟩
theorem setT_fresh {h : Heap} (w : World) : SetT w (h.push { cls := .type "set", dict := none, data := .set #[] 0 (.fresh 0 0 (!w.params.followText "set-order")) }) h.objs.size [] :=
  ⟨_, #[], 0, _, Heap.get?_push_size _ rfl, ⟨rfl, rfl, rfl⟩, rfl, (fun e he => by simp at he), (by simp), List.nodup_nil, (by decide), (by rfl), List.Pairwise.nil, by
    show _ ∨ (!w.params.followText "set-order") = true
    cases w.params.followText "set-order"
    · exact .inr rfl
    · exact .inl rfl⟩
section
variable {prog : Program} {w : World} {A : Around} {R : Result → Shared → Prop} {I : Addr} {fp wr : List Addr} {G : Array GenState → Array GenState → Prop} {n : Nat} {P : Nat → Value → Prop} {St : Nat → Shared → Prop}
theorem loopT (W : WalksS prog w A.in1 I fp wr G n P St) (D : Addr) (off : D ∉ fp) (xs : List Str) (hn : xs.length = n) (few : n + 1 < scanBound)
    (txt : ∀ i v, P i v → ∃ t, v = .str (xs.getD i Str.empty) t) :
    ∀ (k i : Nat) (s : Shared), n - i = k → i ≤ n → St i s → SetT w s.heap D (uq (xs.take i)) →
      (∀ s', Moved (D :: wr) G s s' → SetT w s'.heap D (uq xs) → R (.ok (.ret .none)) s') →
      codeAny (model prog w) A (.builtin "set.update.loop" ⟨[.ref D, .ref I], []⟩) R s := by
  have offw : D ∉ wr := fun h => off (W.sub _ h)
  have sub : ∀ b ∈ wr, b ∈ D :: wr := fun b hb => List.mem_cons_of_mem _ hb
  intro k
  induction k with
  | zero =>
    intro i s hk hi st T hR
    obtain rfl : i = n := by omega
    refine codeAny_builtin PyProof.Rows.F.entry_set_update_loop ?_
    rw [Around.under_plainId PyProof.Rows.F.plain_set_update_loop _]
    show wpAny _ A.in1 (pyNext (.ref I) >>= _) _ _ s
    refine wpAny_bind (W.done s _ _ st fun s' mv => ?_)
    show wpAny _ A.in1 (ret Value.none) _ _ s'
    rw [← hn, List.take_length] at T
    exact wpAny_pure (hR s' (mv.mono sub) (T.at fun o e => mv.heap D o offw e))
  | succ k ih =>
    intro i s hk hi st T hR
    have lt : i < n := by omega
    refine codeAny_builtin PyProof.Rows.F.entry_set_update_loop ?_
    rw [Around.under_plainId PyProof.Rows.F.plain_set_update_loop _]
    show wpAny _ A.in1 (pyNext (.ref I) >>= _) _ _ s
    refine wpAny_bind (W.item i s _ _ lt st fun v s' hP st' mv => ?_)
    obtain ⟨t, rfl⟩ := txt i v hP
    have T' : SetT w s'.heap D (uq (xs.take i)) := T.at fun o e => mv.heap D o offw e
    show wpAny _ A.in1 (holding [Value.str (xs.getD i Str.empty) t] (setAdd D (.str (xs.getD i Str.empty) t)) >>= _) _ _ s'
    refine wpAny_bind (wpAny_holding ?_)
    unfold setAdd
    refine wpAny_holding ?_
    refine wpAny_bind ((strKind prog w).pyHash (k := xs.getD i Str.empty) (strKind_is _ _ _ _) ?_)
    have small : (uq (xs.take i)).length + 1 < scanBound := by
      have := len_uq (xs.take i)
      rw [List.length_take] at this
      omega
    refine addT (s := { s' with toks := s'.toks + 1 }) T' small fun h' same T2 _ => ?_
    have e1 : uqF (uq (xs.take i)) (xs.getD i Str.empty) = uq (xs.take (i + 1)) := by
      rw [List.take_add_one, getD_at Str.empty (by omega)]
      unfold uq
      rw [List.foldl_append]; rfl
    rw [e1] at T2
    refine wpAny_pure ⟨plainId_quiet PyProof.Rows.F.plain_set_update_loop _, ih (i + 1) _ (by omega) lt (W.frame _ s' _ _ st' (Nat.le_succ _) fun b hb o e => ?_) T2 fun s2 mv2 T3 => ?_⟩
    · rw [same.2 b (fun h : b = D => off (by rw [← h]; exact hb))]; exact e
    · refine hR s2 (Moved.trans W.gtrans ((mv.mono sub).then_heap (Nat.le_succ _) fun b o hb e => ?_) mv2) T3
      rw [same.2 b (fun h : b = D => hb (by rw [h]; exact List.mem_cons_self))]; exact e
end
section
variable {prog : Program} {w : World} {A : Around} {E : Value → Shared → Prop} {s : Shared}
theorem new_setT (a : Value) {Z : Value → Shared → Prop}
    (h : Z (.ref s.heap.objs.size) { s with heap := s.heap.push { cls := .type "set", dict := none, data := .set #[] 0 (.fresh 0 0 (!w.params.followText "set-order")) } }) :
    codeAny (model prog w) A (.call (.builtin "set.__new__") ⟨[.type "set", a], []⟩) (wants Z E) s := by
  refine codeAny_of_tree ?_
  show wpAny _ A.in1 (do checkBuiltinCall "set.__new__" ⟨[.type "set", a], []⟩; again (.builtin "set.__new__" ⟨[.type "set", a], []⟩)) _ _ s
  refine wpAny_bind (wpAny_of_eq (PySem.F.newCall_set_1 a) (wpAny_pure ⟨plainId_quiet PySem.F.plain_set_new _, codeAny_builtin PySem.F.entry_set_new ?_⟩))
  rw [Around.under_plainId PySem.F.plain_set_new _]
  unfold Builtin.«set.__new__» Builtin.Frozenset.newClass
  have self := sub_set_self
  obtain ⟨h0, g, d, tk, os⟩ := s
  dsimp only
  wp_walk
  refine wpAny_askSetting (wpAny_pure ?_)
  dsimp only
  simp only [newObj]
  exact wpAny_bind (wpAny_alloc (wpAny_pure (wpAny_pure h)))
end
end Vl
namespace Vl
open PySem PySem.Spec L2
open PyProof.Rows hiding St
section
variable {prog : Program} {w : World} {A : Around} {E : Value → Shared → Prop} {s : Shared}
abbrev setO0 (w : World) : Obj := { cls := .type "set", dict := none, data := .set #[] 0 (.fresh 0 0 (!w.params.followText "set-order")) }
set_option maxHeartbeats 3200000 in
theorem call_setT {l : Addr} {items : Array Value} {xs : List Str} {Q : Value → Shared → Prop}
    (hh : A.handled = none) (isl : s.heap.IsList l items) (hx : PyProof.Rows.StrsAre items.toList xs) (few : xs.length + 1 < scanBound)
    (h : ∀ (h' : Heap) (tk : Nat), SetT w h' s.heap.objs.size (uq xs) → (∀ b o, b < s.heap.objs.size → s.heap.get? b = some o → h'.get? b = some o) → Q (.ref s.heap.objs.size) { s with heap := h', toks := tk }) :
    wpAny (model prog w) A (call (.type "set") [.ref l]) Q E s := by
  obtain ⟨c, tl, hmro⟩ := PySem.F.called_set.mro
  have made := PySem.F.called_set.made
  have subs := PySem.F.called_set.sub
  refine wpAny_call (codeAny_of_tree ?_)
  show wpAny _ _ (callAny (.type "set") _) _ _ _
  refine wpAny_pure ⟨Code.quiet_builtin _ (by decide +kernel), codeAny_builtin PySem.F.entry_type_call ?_⟩
  rw [Around.under_plain (weight_type_call_type "set" [.ref l] []) rfl]
  have n1 := PySem.F.called_set.notType
  have n2 := PySem.F.called_set.canCreate
  have n3 := PySem.F.typeCall_set_1 (.ref l)
  repeat (any_goals (first | assumption | wp_step))
  refine codeAny_mono (new_setT (.ref l) (E := E) (Z := fun obj t => obj = .ref s.heap.objs.size ∧ t = { s with heap := s.heap.push (setO0 w) }) ⟨rfl, rfl⟩) fun r t hr => ?_
  cases r with
  | error e => exact hr
  | ok fl =>
    cases fl with
    | next => exact hr
    | brk => exact hr
    | cont => exact hr
    | ret obj =>
      obtain ⟨rfl, rfl⟩ := hr
      have at0 : (s.heap.push (setO0 w)).get? s.heap.objs.size = some (setO0 w) := Heap.get?_push_size _ rfl
      have ty0 : Shared.TypeIs { s with heap := s.heap.push (setO0 w) } (.ref s.heap.objs.size) "set" := ⟨_, at0, rfl⟩
      have i1 := PySem.F.called_set.init.lookup
      have i2 := PySem.F.called_set.init.bind (.ref s.heap.objs.size)
      repeat (any_goals (first | assumption | wp_step))
      refine codeAny_mono (codeAny_call_builtin (R := wants (fun r t => r = .none ∧ ∃ h' tk, t = { s with heap := h', toks := tk } ∧ SetT w h' s.heap.objs.size (uq xs) ∧
          (∀ b o, b < s.heap.objs.size → s.heap.get? b = some o → h'.get? b = some o)) E) PySem.F.called_set.init.plain PySem.F.entry_set_init (check_set_init_1 ty0 ?_)) fun r2 t2 hr2 => ?_
      · obtain ⟨ol, hol, hcl, nl, hdl⟩ := isl
        obtain ⟨ocls, odict, odata, oslots⟩ := ol
        simp only at hcl hdl
        subst hcl; subst hdl
        have hol1 : (s.heap.push (setO0 w)).get? l = some { cls := .type "list", dict := odict, data := .seq items nl, slots := oslots } := Heap.get?_push_of_some _ hol
        have f1 := PySem.F.sub_list_set
        have f2 := PySem.F.sub_list_frozenset
        have f3 : (Value.type "list" == Value.type "dict") = false := by decide
        have isl1 : (s.heap.push (setO0 w)).IsList l items := ⟨_, hol1, rfl, nl, rfl⟩
        unfold Builtin.«set.__init__» noKeywords Builtin.Frozenset.updateFrom
        generalize ePI : pyIter = PI
        wp_walk
        subst ePI
        refine wpAny_pyIter_list isl1 ?_
        refine wpAny_bind (wpAny_runValue ?_)
        have lS : l < s.heap.objs.size := Heap.lt_size hol
        have hh3 : A.in1.in1.in1.handled = none := by simp [hh]
        have lI : l ≠ (s.heap.push (setO0 w)).objs.size := by rw [Heap.size_push]; exact Nat.ne_of_lt (Nat.lt_succ_of_lt lS)
        have off : s.heap.objs.size ∉ [(s.heap.push (setO0 w)).objs.size, l] := by
          rw [Heap.size_push]
          simp only [List.mem_cons, List.mem_singleton, List.not_mem_nil, or_false, not_or]
          exact ⟨Nat.ne_of_lt (Nat.lt_succ_self _), Nat.ne_of_gt lS⟩
        have len : xs.length = items.size := by rw [← StrsAre.len_eq hx, Array.length_toList]
        have txt : ∀ (i : Nat) (v : Value), items[i]? = some v → ∃ t, v = .str (xs.getD i Str.empty) t := fun i v hv => _root_.SS.strs_at hx i v (by rw [Array.getElem?_toList]; exact hv)
        refine loopT ((Walks.list hh3 _ l lI items).toS) s.heap.objs.size off xs len (by rw [← len]; exact few) txt (items.size - 0) 0 _ (by omega) (Nat.zero_le _)
          ⟨⟨_, Heap.get?_push_size _ rfl, rfl, rfl⟩, (isl1.push _)⟩ ?s0 ?sR
        case s0 =>
          exact (setT_fresh (h := s.heap) w).at fun o e => Heap.get?_push_of_some _ e
        case sR =>
          intro t mv T
          obtain ⟨h', g', d', tk', os'⟩ := t
          have eg : g' = s.gens := mv.gens
          have ed : d' = s.drawn := mv.drawn
          have eo : os' = s.os := mv.os
          subst eg; subst ed; subst eo
          show wpAny _ _ _ _ _ _
          refine wpAny_pure ?_
          show wpAny _ _ (ret Value.none) _ _ _
          refine wpAny_pure ⟨rfl, h', tk', rfl, T, fun b o hb e => ?_⟩
          have b1 : b ≠ s.heap.objs.size := Nat.ne_of_lt hb
          have b2 : b ≠ (s.heap.push (setO0 w)).objs.size := by rw [Heap.size_push]; exact Nat.ne_of_lt (Nat.lt_succ_of_lt hb)
          exact mv.heap b o (by simp only [List.mem_cons, List.mem_singleton, List.not_mem_nil, or_false, not_or]; exact ⟨b1, b2⟩) (Heap.get?_push_of_some _ (Heap.get?_push_of_some _ e))
      · cases r2 with
        | error e => exact hr2
        | ok fl2 =>
          cases fl2 with
          | ret r =>
            obtain ⟨rfl, h', tk, rfl, T, keep⟩ := hr2
            repeat (any_goals (first | assumption | wp_step))
            exact h _ _ T keep
          | next => exact hr2.elim
          | brk => exact hr2.elim
          | cont => exact hr2.elim
end
end Vl
namespace Vl
open PySem PySem.Spec L2
open PyProof.Rows hiding St

/-! ### sorted(set(texts)) -/
abbrev sle (a b : Str) : Bool := decide (a.cps.toList ≤ b.cps.toList)
theorem sle_trans (a b c : Str) (h : sle a b = true) (h' : sle b c = true) : sle a c = true := decide_eq_true (List.le_trans (of_decide_eq_true h) (of_decide_eq_true h'))
theorem sle_total (a b : Str) : (sle a b || sle b a) = true := by
  rcases List.le_total a.cps.toList b.cps.toList with h | h
  · rw [show sle a b = true from decide_eq_true h]; rfl
  · rw [show sle b a = true from decide_eq_true h, Bool.or_true]
theorem sle_anti {a b : Str} (h : sle a b = true) (h' : sle b a = true) : a = b := PySem.W.str_of_cps (List.le_antisymm (of_decide_eq_true h) (of_decide_eq_true h'))
theorem srtS_pair (l : List Str) : (srtS l).Pairwise fun a b => sle a b = true := List.pairwise_mergeSort sle_trans sle_total l
theorem srtS_perm {l m : List Str} (h : l.Perm m) : srtS l = srtS m :=
  List.Perm.eq_of_pairwise (fun a b _ _ h1 h2 => sle_anti h1 h2) (srtS_pair l) (srtS_pair m) ((perm_srtS l).trans (h.trans (perm_srtS m).symm))
theorem srtS_idem (l : List Str) : srtS (srtS l) = srtS l := srtS_perm (perm_srtS l)
end Vl
namespace Vl
open PySem PySem.Spec L2
open PyProof.Rows hiding St

theorem bt_set : bootBuiltins "set" = some (.type "set") := by decide +kernel
def tSrtSet (K : PySem.W.Frag) (ta : TE) : TE := fun σ H Q => ta σ H fun x H1 => ∃ (l : Addr) (ns : List Str), x = .ref l ∧ SqL K H1 l (ns.map V.str) ∧ ns.length ≤ 4000 ∧ ∀ p, H1 p = none → Q (.ref p) (upd H1 p (.lst ((srtS (uq ns)).map V.str)))
def txtOf (v : Value) : Str := match v with
  | .str x _ => x
  | _ => Str.empty
theorem tx_vals {w : World} {es : List (Int × Value)} (g : ∀ e ∈ es, TxE w e) {out : List Value} (pm : out.Perm (es.map (·.2))) : (∀ v ∈ out, ∃ t, v = .str (txtOf v) t) ∧ (out.map txtOf).Perm (es.map keyT) := by
  refine ⟨fun v hv => ?_, ?_⟩
  · obtain ⟨e, he, rfl⟩ := List.mem_map.mp (pm.mem_iff.mp hv)
    obtain ⟨x, u, e1, _⟩ := g e he
    rw [e1]; exact ⟨u, rfl⟩
  · have := pm.map txtOf
    rw [List.map_map] at this
    exact this
theorem each_tx {h : Heap} : ∀ {out : List Value}, (∀ v ∈ out, ∃ t, v = .str (txtOf v) t) → PySem.W.EachIs (fun (v : Value) (b : V × D) => RelV b.1 v) out ((out.map txtOf).map fun x => (V.str x, D.str x)) ∧
    PySem.W.EachIs (fun (v : Value) (b : V × D) => ∃ as, Reads h v (toPy b.2) as) out ((out.map txtOf).map fun x => (V.str x, D.str x))
  | [], _ => ⟨.nil, .nil⟩
  | v :: out, g => by
    obtain ⟨a, b⟩ := each_tx (h := h) fun u hu => g u (List.mem_cons_of_mem _ hu)
    obtain ⟨t, e⟩ := g v List.mem_cons_self
    refine ⟨.cons ?_ a, .cons ?_ b⟩
    · exact ⟨t, e⟩
    · refine ⟨[], ?_⟩
      show Reads h v (.str (txtOf v)) []
      rw [e]
      exact .str _ _
theorem srt_pairs (xs : List Str) : ((xs.map fun x => (V.str x, D.str x)).mergeSort (PySem.W.dataLe false fun b => toPy b.2)) = (srtS xs).map fun x => (V.str x, D.str x) := by
  have e := List.map_mergeSort (r := sle) (s := PySem.W.dataLe false fun b : V × D => toPy b.2) (f := fun x => (V.str x, D.str x)) (l := xs) (fun x _ y _ => by
    have := congrFun (congrFun (PySem.W.dataLe_str (fun z : Str => z)) x) y
    exact this.symm)
  exact e.symm
section
variable {X : Cx} {a : Expr} {ta : TE} {p p2 q pos : Pos}
theorem pe_srtSet (hc : X.calm = true) (hu : X.A.units + 64 < cLine) (hg : Gl X "sorted") (hm : X.mg "sorted" = none) (hg2 : Gl X "set") (hm2 : X.mg "set" = none) (ha : PE X a ta)
    (na : starEach [a] X.env = (false, eval a X.env) :: starEach [] X.env := by rfl) : PE X (.Call (.Name "sorted" p) [.Call (.Name "set" p2) [a] [] q] [] pos) (tSrtSet X.K ta) := by
  refine ⟨fun pins s σ H Q I h => ?_⟩
  refine Call_ (ld_blt I hg hm bt_sorted ?_)
  refine PyProof.Rows.callWith_builtin1 (PyProof.Rows.args_cons ?_ rfl) rfl rfl
  refine Call_ (ld_blt I hg2 hm2 bt_set ?_)
  refine PyProof.Rows.callWith_type1 (PyProof.Rows.args_cons (thn (ha.run pins s σ H _ I h) fun v s1 ⟨x, H1, I1, r1, q1⟩ => PyProof.Rows.args_nil ?_) na) na rfl
  obtain ⟨l, ns, rfl, sq, few, q1⟩ := q1
  cases r1
  obtain ⟨its, r, pl, hz⟩ := I1.list sq
  have sx : PyProof.Rows.StrsAre its.toArray.toList ns := by simpa using strsAre_of r
  refine call_setT (I1.ok.hd hc) pl.isList sx (by unfold scanBound; omega) fun h' tk T keep => ?_
  refine PyProof.Rows.args_nil ?_
  have I2 : Inv X pins σ H1 { s1 with heap := h', toks := tk } := I1.kept fun b o e => keep b o (Heap.lt_size e) e
  obtain ⟨o, es, ep, t, at0, ex, dat, g, pm, nd, fw, fit, ris, led⟩ := T
  refine sorted_gath (s := { s1 with heap := h', toks := tk }) (F := fun out s2 => (∀ b o, h'.get? b = some o → s2.heap.get? b = some o) ∧ s2.gens = s1.gens ∧ s2.os = s1.os ∧ out.Perm (es.toList.map (·.2)))
    (fun {Z} hZ => collect_set (A := X.A.in1) (I1.ok.hd hc) ⟨o, at0, ex.1, dat⟩ fit fw ris led fun s2 vs k1 _ g1 o1 pv => hZ _ _ ⟨k1, g1, o1, pv⟩) ?_ hu
  rintro out s2 ⟨k1, g1, o1, pv⟩
  obtain ⟨t1, t2⟩ := tx_vals g pv
  obtain ⟨r1, r2⟩ := each_tx (h := s2.heap) t1
  have pu : (out.map txtOf).Perm (uq ns) := t2.trans pm
  have lo : (out.map txtOf).length ≤ ns.length := by rw [pu.length_eq]; exact len_uq ns
  refine ⟨_, ⟨k1, g1, o1, r1, r2⟩, ?_, ?_, fun p s3 its3 c e3 hp k3 g3 o3 hg3 => ?_⟩
  · rw [List.map_map]; exact srtOk_strs _
  · rw [List.length_map, szl]; omega
  · rw [srt_pairs] at e3
    have l3 : ((srtS (out.map txtOf)).map fun x => (V.str x, D.str x)).length ≤ sizeLine := by rw [List.length_map, len_srtS, szl]; omega
    refine srt_end I2 e3 l3 hp k3 g3 o3 hg3 fun p hn => ?_
    rw [List.map_map]
    have := q1 p hn
    rw [srtS_perm pu]
    exact this
def kSet (d : D) (P : Re → Prop) : Prop := match d with
  | .lst xs => ∃ ns : List Str, xs = ns.map D.str ∧ ns.length ≤ 4000 ∧ P (.new (.lst ((srtS (uq ns)).map D.str)))
  | _ => False
def fSrtSet (fa : WE) : WE := fun ss G => fa ss fun r s => vw r s fun d => kSet d fun r => G r s
theorem de_srtSet {fa : WE} (hc : X.calm = true) (hu : X.A.units + 64 < cLine) (hm : X.mg "sorted" = none) (hm2 : X.mg "set" = none) (ha : DE X a fa) (hg : Gl X "sorted" := by rfl) (hg2 : Gl X "set" := by rfl)
    (na : starEach [a] X.env = (false, eval a X.env) :: starEach [] X.env := by rfl) : DE X (.Call (.Name "sorted" p) [.Call (.Name "set" p2) [a] [] q] [] pos) (fSrtSet fa) := by
  obtain ⟨t, pa, hf⟩ := ha
  refine ⟨_, pe_srtSet hc hu hg hm hg2 hm2 pa na, fun B R w σ H ss G Q o hw hq => hf B R w σ H ss _ _ o hw fun v H1 r s1 w1 o1 r1 e1 h1 => ?_⟩
  obtain ⟨d, rd, hk⟩ := vw_ok o1 r1 h1
  unfold kSet at hk
  split at hk
  · obtain ⟨ns, rfl, few, hk⟩ := hk
    obtain ⟨l, vs, rfl, g1, g2⟩ := rd
    obtain rfl := RepL.strs g2
    refine ⟨l, ns, rfl, .inl g1, few, fun p hp => ?_⟩
    obtain ⟨o2, r2⟩ := new_ok (c := .lst ((srtS (uq ns)).map D.str)) o1 hp ⟨_, upd_same, RepL.of_strs _⟩
    exact hq _ _ (.new _) s1 w1 o2 r2 e1 hk
  · exact hk.elim
theorem x_set {xs : List D} {P : Re → Prop} : kSet (.lst xs) P = ∃ ns : List Str, xs = ns.map D.str ∧ ns.length ≤ 4000 ∧ P (.new (.lst ((srtS (uq ns)).map D.str))) := propext Iff.rfl
end
end Vl
namespace Vl
open PySem PySem.Spec L2
open PyProof.Rows hiding St

/-! ### scripts: what is alike -/
section
variable {ss : SS} {k : D → Prop} {o : Option Str}
theorem x_vw_oS : vw (.val (oS o)) ss k = k (oS o) := by cases o <;> rfl
theorem x_isN_oS : isNon (oS o) = o.isNone := by cases o <;> rfl
theorem x_noR_oS : noRaw (oS o) = true := by cases o <;> rfl
end
theorem imgF_nil (x : Str) : imgF [] x = x := rfl
theorem imgF_cons (m : Stp) (ms : List Stp) (x : Str) : imgF (m :: ms) x = imgF ms (if x = m.1 then m.2 else x) := rfl
theorem imgF_append (a b : List Stp) (x : Str) : imgF (a ++ b) x = imgF b (imgF a x) := by unfold imgF; rw [List.foldl_append]
theorem imgF_out : ∀ {ms : List Stp} {x : Str}, (∀ m ∈ ms, x ≠ m.1) → imgF ms x = x
  | [], _, _ => rfl
  | m :: ms, x, h => by
    rw [imgF_cons, if_neg (h m List.mem_cons_self)]
    exact imgF_out fun a ha => h a (List.mem_cons_of_mem _ ha)
theorem imgF_nm {ms : List Stp} {x : Str} (h : x ∉ nmF ms) : imgF ms x = x := imgF_out fun m hm e => h (mem_nmF.mpr ⟨m, hm, .inl e⟩)
def smF (one other : List Stp) : Bool := decide (∀ x ∈ nmF (one ++ other), imgF one x = imgF other x)
theorem smF_all {one other : List Stp} : smF one other = true ↔ ∀ x, imgF one x = imgF other x := by
  unfold smF
  rw [decide_eq_true_iff]
  refine ⟨fun h x => ?_, fun h x _ => h x⟩
  by_cases q : x ∈ nmF (one ++ other)
  · exact h x q
  · have q1 : x ∉ nmF one := fun z => q (by
      obtain ⟨m, hm, e⟩ := mem_nmF.mp z
      exact mem_nmF.mpr ⟨m, List.mem_append_left _ hm, e⟩)
    have q2 : x ∉ nmF other := fun z => q (by
      obtain ⟨m, hm, e⟩ := mem_nmF.mp z
      exact mem_nmF.mpr ⟨m, List.mem_append_right _ hm, e⟩)
    rw [imgF_nm q1, imgF_nm q2]
theorem ulF_none {one other : List Stp} : (ulF one other).isNone = smF one other := by
  unfold ulF smF
  rw [Bool.eq_iff_iff, Option.isNone_iff_eq_none, List.find?_eq_none, decide_eq_true_iff]
  refine ⟨fun h x hx => ?_, fun h x hx => ?_⟩
  · have := h x hx
    simpa using this
  · simpa using h x hx
theorem stG_at : ∀ {ms : List Stp} {now : List Str} {i : Nat} {y : Str}, i < ms.length → (y ∈ (stG ms now).getD i [] ↔ ∃ x ∈ now, imgF (ms.take i) x = y)
  | m :: ms, now, 0, y, _ => by
    show y ∈ now ↔ _
    exact ⟨fun h => ⟨y, h, rfl⟩, fun ⟨x, hx, e⟩ => e ▸ hx⟩
  | m :: ms, now, i + 1, y, h => by
    show y ∈ (stG ms (uq (now.map fun x => if x = m.1 then m.2 else x))).getD i [] ↔ _
    rw [stG_at (Nat.lt_of_succ_lt_succ h)]
    refine ⟨fun ⟨x, hx, e⟩ => ?_, fun ⟨x, hx, e⟩ => ⟨_, mem_uq.mpr (List.mem_map.mpr ⟨x, hx, rfl⟩), e⟩⟩
    obtain ⟨z, hz, rfl⟩ := List.mem_map.mp (mem_uq.mp hx)
    exact ⟨z, hz, e⟩
theorem stF_at {ms : List Stp} {i : Nat} {y : Str} (h : i < ms.length) : y ∈ (stF ms).getD i [] ↔ ∃ x ∈ nmF ms, imgF (ms.take i) x = y := by
  unfold stF
  rw [stG_at h]
  exact ⟨fun ⟨x, hx, e⟩ => ⟨x, mem_uq.mp hx, e⟩, fun ⟨x, hx, e⟩ => ⟨x, mem_uq.mpr hx, e⟩⟩
theorem split_at {ms : List Stp} {i : Nat} (h : i < ms.length) : ms = ms.take i ++ (ms.getD i ("", "") :: ms.drop (i + 1)) := by
  conv => lhs; rw [← List.take_append_drop i ms]
  rw [List.drop_eq_getElem_cons h]
  congr 2
  rw [List.getD_eq_getElem?_getD, List.getElem?_eq_getElem h]; rfl
theorem stand_of {ms : List Stp} {i : Nat} {x y : Str} (h : i < ms.length) (hy : y ∈ nmF ms) (e : imgF (ms.take i) x = y) : y ∈ (stF ms).getD i [] := by
  rw [stF_at h]
  by_cases q : x ∈ nmF ms
  · exact ⟨x, q, e⟩
  · have : imgF (ms.take i) x = x := imgF_out fun m hm z => q (mem_nmF.mpr ⟨m, List.mem_of_mem_take hm, .inl z⟩)
    exact absurd (by rw [← this, e]; exact hy) q
theorem idP_same {ms : List Stp} {i : Nat} (h : i < ms.length) : idP ms i (ms.getD i ("", "")) = smF ms (ms.take i ++ ms.drop (i + 1)) := by
  have sp := split_at h
  have mem := getD_mem (("", "") : Stp) h
  generalize hm : ms.getD i ("", "") = m at sp mem
  rw [Bool.eq_iff_iff, smF_all]
  have key : ∀ x, imgF ms x = imgF (ms.drop (i + 1)) (if imgF (ms.take i) x = m.1 then m.2 else imgF (ms.take i) x) := fun x => by
    conv => lhs; rw [sp, imgF_append, imgF_cons]
  have e0 : idP ms i m = (decide (m.1 ∉ (stF ms).getD i []) || decide (imgF (ms.drop (i + 1)) m.1 = imgF (ms.drop (i + 1)) m.2)) := rfl
  rw [e0, Bool.or_eq_true, decide_eq_true_iff, decide_eq_true_iff]
  refine ⟨fun hh x => ?_, fun hh => ?_⟩
  · rw [key x, imgF_append]
    split
    · rename_i e
      rcases hh with hh | hh
      · exact absurd (stand_of h (mem_nmF.mpr ⟨m, mem, .inl rfl⟩) e) hh
      · rw [e]; exact hh.symm
    · rfl
  · by_cases q : m.1 ∈ (stF ms).getD i []
    · obtain ⟨x, _, e⟩ := (stF_at h).mp q
      have := hh x
      rw [key x, imgF_append, e, if_pos rfl] at this
      exact .inr this.symm
    · exact .inl q
theorem idF_same (ms : List Stp) : idF ms = (List.range ms.length).filter fun i => smF ms (ms.take i ++ ms.drop (i + 1)) := by
  unfold idF
  exact List.filter_congr fun i hi => idP_same (List.mem_range.mp hi)
theorem loP_same {ms : List Stp} {i : Nat} (h : i + 1 < ms.length) : loP ms i = smF ms (ms.take i ++ [ms.getD (i + 1) ("", ""), ms.getD i ("", "")] ++ ms.drop (i + 2)) := by
  have h0 : i < ms.length := by omega
  have sp := split_at h0
  have sp2 : ms.drop (i + 1) = ms.getD (i + 1) ("", "") :: ms.drop (i + 2) := by
    rw [List.drop_eq_getElem_cons h]
    congr 1
    rw [List.getD_eq_getElem?_getD, List.getElem?_eq_getElem h]; rfl
  have mem1 := getD_mem (("", "") : Stp) h0
  have mem2 := getD_mem (("", "") : Stp) h
  have e0 : loP ms i = (([(ms.getD i ("", "")).1, (ms.getD (i + 1) ("", "")).1].filter fun x => decide (x ∈ (stF ms).getD i [])).filter fun x => decide (imgF (ms.drop i) x ≠ imgF ([ms.getD (i + 1) ("", ""), ms.getD i ("", "")] ++ ms.drop (i + 2)) x)).isEmpty := rfl
  rw [e0]
  have sp3 : ms.drop i = ms.getD i ("", "") :: ms.getD (i + 1) ("", "") :: ms.drop (i + 2) := by
    rw [← sp2, List.drop_eq_getElem_cons h0]
    congr 1
    rw [List.getD_eq_getElem?_getD, List.getElem?_eq_getElem h0]; rfl
  have all : ∀ x, imgF ms x = imgF (ms.drop i) (imgF (ms.take i) x) := fun x => by rw [← imgF_append, List.take_append_drop]
  generalize hm1 : ms.getD i ("", "") = m1 at *
  generalize hm2 : ms.getD (i + 1) ("", "") = m2 at *
  rw [Bool.eq_iff_iff, smF_all, List.isEmpty_iff, List.filter_eq_nil_iff]
  have rhs : ∀ x, imgF (ms.take i ++ [m2, m1] ++ ms.drop (i + 2)) x = imgF ([m2, m1] ++ ms.drop (i + 2)) (imgF (ms.take i) x) := fun x => by rw [List.append_assoc, imgF_append]
  refine ⟨fun hh x => ?_, fun hh y hy => ?_⟩
  · rw [all x, rhs x]
    generalize hy : imgF (ms.take i) x = y
    have dec : ∀ y, y = m1.1 ∨ y = m2.1 → imgF (ms.take i) x = y → imgF (ms.drop i) y = imgF ([m2, m1] ++ ms.drop (i + 2)) y := fun y hm e => by
      have st : y ∈ (stF ms).getD i [] := stand_of h0 (by
        rcases hm with rfl | rfl
        · exact mem_nmF.mpr ⟨m1, mem1, .inl rfl⟩
        · exact mem_nmF.mpr ⟨m2, mem2, .inl rfl⟩) e
      have := hh y (List.mem_filter.mpr ⟨by rcases hm with rfl | rfl <;> simp, decide_eq_true st⟩)
      simpa using this
    by_cases q1 : y = m1.1
    · exact dec y (.inl q1) hy
    · by_cases q2 : y = m2.1
      · exact dec y (.inr q2) hy
      · rw [sp3, imgF_cons, if_neg q1, imgF_cons, if_neg q2]
        show _ = imgF (m2 :: m1 :: ms.drop (i + 2)) y
        rw [imgF_cons, if_neg q2, imgF_cons, if_neg q1]
  · obtain ⟨_, st⟩ := List.mem_filter.mp hy
    obtain ⟨x, _, e⟩ := (stF_at h0).mp (of_decide_eq_true st)
    have := hh x
    rw [all x, rhs x, e] at this
    simp [this]
theorem loF_same (ms : List Stp) : loF ms = (List.range (ms.length - 1)).filter fun i => smF ms (ms.take i ++ [ms.getD (i + 1) ("", ""), ms.getD i ("", "")] ++ ms.drop (i + 2)) := by
  unfold loF
  exact List.filter_congr fun i hi => loP_same (by have := List.mem_range.mp hi; omega)
end Vl
namespace Vl
open PySem PySem.Spec L2
open PyProof.Rows hiding St

/-! ### xs[::-1] -/
section
variable {X : Cx} {e : Expr} {fa : WE} {k : Nat} {p1 p2 p3 pos : Pos}
def revD (d : D) (P : Re → Prop) : Prop := match d with
  | .lst xs => P (.new (.lst xs.reverse))
  | _ => False
def fRev (fa : WE) : WE := fun ss G => fa ss fun r s => vw r s fun d => revD d fun r => G r s
theorem de_rev (ha : DE X e fa) : DE X (.Subscript e (.Slice none none (some (.UnaryOp .USub (.Constant (.int 1) k p1) p2)) p3) pos) (fRev fa) := by
  obtain ⟨t, pa, hf⟩ := ha
  refine ⟨_, pe_revL pa, fun B R w σ H ss G Q o hw hq => hf B R w σ H ss _ _ o hw fun v H1 r s1 w1 o1 r1 e1 h1 => ?_⟩
  obtain ⟨d, rd, hk⟩ := vw_ok o1 r1 h1
  unfold revD at hk
  split at hk
  · obtain ⟨l, vs, rfl, g1, g2⟩ := rd
    refine ⟨l, vs, rfl, .inl g1, fun p hp => ?_⟩
    obtain ⟨o2, r2⟩ := new_ok (c := .lst _) o1 hp ⟨_, upd_same, g2.reverse⟩
    exact hq _ _ (.new _) s1 w1 o2 r2 e1 hk
  · exact hk.elim
theorem x_rev {xs : List D} {P : Re → Prop} : revD (.lst xs) P = P (.new (.lst xs.reverse)) := propext Iff.rfl
end
/-! ### names of two scripts -/
theorem perm_of_mem {l m : List Str} (h1 : l.Nodup) (h2 : m.Nodup) (h : ∀ x, x ∈ l ↔ x ∈ m) : l.Perm m := by
  rw [List.perm_ext_iff_of_nodup h1 h2]
  exact h
theorem srt_mem {l m : List Str} (h1 : l.Nodup) (h2 : m.Nodup) (h : ∀ x, x ∈ l ↔ x ∈ m) : srtS l = srtS m := srtS_perm (perm_of_mem h1 h2 h)
theorem mem_nmF2 {a b : List Stp} {x : Str} : x ∈ nmF (a ++ b) ↔ x ∈ nmF a ∨ x ∈ nmF b := by
  rw [mem_nmF, mem_nmF, mem_nmF]
  constructor
  · rintro ⟨m, hm, e⟩
    rcases List.mem_append.mp hm with hm | hm
    · exact .inl ⟨m, hm, e⟩
    · exact .inr ⟨m, hm, e⟩
  · rintro (⟨m, hm, e⟩ | ⟨m, hm, e⟩)
    · exact ⟨m, List.mem_append_left _ hm, e⟩
    · exact ⟨m, List.mem_append_right _ hm, e⟩
theorem nmF_uq (a b : List Stp) : srtS (uq (nmF a ++ nmF b)) = nmF (a ++ b) := by
  refine srt_mem (nodup_uq _) (nodup_uq _) fun x => ?_
  rw [mem_uq, List.mem_append, ← mem_nmF2]
  unfold nmF
  rw [mem_srtS]
theorem nmF_comm (a b : List Stp) : nmF (a ++ b) = nmF (b ++ a) := by
  rw [← nmF_uq, ← nmF_uq]
  refine srt_mem (nodup_uq _) (nodup_uq _) fun x => ?_
  rw [mem_uq, mem_uq, List.mem_append, List.mem_append, or_comm]
theorem ulF_comm (a b : List Stp) : ulF a b = ulF b a := by
  unfold ulF
  rw [nmF_comm]
  congr 1
  funext x
  rw [Bool.eq_iff_iff, decide_eq_true_iff, decide_eq_true_iff]
  exact ⟨fun h e => h e.symm, fun h e => h e.symm⟩
theorem ulF_head (a b : List Stp) : ulF a b = ((nmF (a ++ b)).filter fun x => decide (imgF a x ≠ imgF b x)).head? := by
  unfold ulF
  rw [List.head?_filter]
theorem ulF_ne {a b : List Stp} {x : Str} (h : ulF a b = some x) : imgF a x ≠ imgF b x := by
  have := List.find?_some h
  simpa using this
/-! ### sorted, to be computed -/
def insT (x : Str) : List Str → List Str
  | [] => [x]
  | y :: l => if sle x y = true then x :: y :: l else y :: insT x l
def srtC (l : List Str) : List Str := l.foldr insT []
theorem insT_perm (x : Str) : ∀ l : List Str, (insT x l).Perm (x :: l)
  | [] => List.Perm.refl _
  | y :: l => by
    unfold insT
    split
    · exact List.Perm.refl _
    · exact ((insT_perm x l).cons y).trans (List.Perm.swap x y l)
theorem insT_pair {x : Str} : ∀ {l : List Str}, l.Pairwise (fun a b => sle a b = true) → (insT x l).Pairwise fun a b => sle a b = true
  | [], _ => by simp [insT]
  | y :: l, h => by
    obtain ⟨h1, h2⟩ := List.pairwise_cons.mp h
    unfold insT
    split
    · rename_i q
      refine List.pairwise_cons.mpr ⟨fun z hz => ?_, h⟩
      rcases List.mem_cons.mp hz with rfl | hz
      · exact q
      · exact sle_trans _ _ _ q (h1 z hz)
    · rename_i q
      refine List.pairwise_cons.mpr ⟨fun z hz => ?_, insT_pair h2⟩
      rcases List.mem_cons.mp ((insT_perm x l).mem_iff.mp hz) with rfl | hz
      · have := sle_total y z
        rw [Bool.or_eq_true] at this
        exact this.elim id fun w => absurd w q
      · exact h1 z hz
theorem srtC_eq (l : List Str) : srtS l = srtC l := by
  have hp : (srtC l).Perm l := by
    unfold srtC
    induction l with
    | nil => exact List.Perm.refl _
    | cons x l ih => exact (insT_perm x _).trans (ih.cons x)
  have hs : (srtC l).Pairwise fun a b => sle a b = true := by
    unfold srtC
    clear hp
    induction l with
    | nil => exact List.Pairwise.nil
    | cons x l ih => exact insT_pair ih
  exact List.Perm.eq_of_pairwise (fun a b _ _ h1 h2 => sle_anti h1 h2) (srtS_pair l) hs ((perm_srtS l).trans hp.symm)
def nmC (ms : List Stp) : List Str := srtC (nmL ms)
theorem nmC_eq (ms : List Stp) : nmF ms = nmC ms := srtC_eq _
theorem ulC_eq (one other : List Stp) : ulF one other = (nmC (one ++ other)).find? fun x => decide (imgF one x ≠ imgF other x) := by unfold ulF; rw [nmC_eq]
theorem smC_eq (one other : List Stp) : smF one other = decide (∀ x ∈ nmC (one ++ other), imgF one x = imgF other x) := by
  unfold smF
  simp only [nmC_eq]
end Vl
namespace Vl
open PySem PySem.Spec L2
open PyProof.Rows hiding St

/-! ### dict(zip(a, b)) of two lists -/
section
variable {X : Cx} {e e2 : Expr} {p p2 pos pos2 : Pos}
/-- keys, values; what the dict holds -/
def tDZip (r : List V → Hp → VK → Prop) (ta : TA) : TE := fun σ H R => ta σ H fun vs H1 => r vs H1 fun v H2 => R v H2
def rDZip : List V → Hp → VK → Prop := fun vs H Q => ∃ (a b : Addr) (ks : List Key) (ys : List V), vs = [.ref a, .ref b] ∧ Rd H a (.lst (ks.map kV)) ∧ Rd H b (.lst ys) ∧ ∀ p, H p = none → Q (.ref p) (L2.upd H p (.dK (mergeK [] (ks.zip ys))))
theorem keys_of {P : Program} {w : World} : ∀ {ks : List Key} {us : List Value}, Vals (ks.map kV) us → us.length = ks.length ∧ ∀ (i : Nat) (u : Value), us[i]? = some u → ∃ k, ks[i]? = some k ∧ (mixKind P w).is k u = true
  | [], us, r => by
    rw [List.map_nil] at r
    cases r
    exact ⟨rfl, fun i u h => by simp at h⟩
  | k :: ks, us, r => by
    rw [List.map_cons] at r
    cases r with
    | cons h t =>
      obtain ⟨hl, ht⟩ := keys_of (P := P) (w := w) t
      refine ⟨by rw [List.length_cons, List.length_cons, hl], fun i u hu => ?_⟩
      cases i with
      | zero => have hu := Option.some.inj hu; subst hu; exact ⟨k, rfl, kV_is h⟩
      | succ i => exact ht i u (by simpa using hu)
theorem kv_zip : ∀ {ks : List Key} {ys : List V} {us : List Value}, Vals ys us → KV (ks.zip ys) (ks.zip us)
  | [], _, _, _ => by rw [List.zip_nil_left, List.zip_nil_left]; exact .nil
  | k :: ks, _, _, .nil => .nil
  | k :: ks, _, _, .cons h t => by rw [List.zip_cons_cons, List.zip_cons_cons]; exact .cons ⟨rfl, h⟩ (kv_zip t)
theorem pe_dzip {ta : TA} (hg : Gl X "zip") (hm : X.mg "zip" = none) (hg2 : Gl X "dict") (hm2 : X.mg "dict" = none) (hcalm : X.calm = true) (ha : PA X [e, e2] ta)
    (hs : starEach [e, e2] X.env = (false, eval e X.env) :: starEach [e2] X.env) (hpl : (backTo pos2 (starEach [e2] X.env)).any (·.1) = false)
    (hs2 : starEach [.Call (.Name "zip" p2) [e, e2] [] pos2] X.env = [(false, eval (.Call (.Name "zip" p2) [e, e2] [] pos2) X.env)]) :
    PE X (.Call (.Name "dict" p) [.Call (.Name "zip" p2) [e, e2] [] pos2] [] pos) (tDZip rDZip ta) := by
  refine ⟨fun pins s σ H R I h => ?_⟩
  refine wpAny_Call_Name_kw (ld_blt I hg2 hm2 PyProof.Rows.boot_dict ?_ (by decide) (by decide))
  rw [hs2]
  show wpAny _ _ (callWith pos (.type "dict") [] [(false, eval (.Call (.Name "zip" p2) [e, e2] [] pos2) X.env)] []) _ _ _
  refine PyProof.Rows.callWith_type rfl (PySem.Calls.evalArgs_plain (PySem.Calls.spliced_cons (wpAny_mono ?_ (fun _ _ h₁ => PySem.Calls.spliced_nil h₁) fun _ _ e => e)))
  refine Call_ (ld_blt I hg hm PyProof.Rows.boot_zip (PyProof.Rows.callWith_type1 (thn (ha.run pos2 pins s σ H _ I h) fun us s1 ⟨vs, H1, I1, r1, q1⟩ => ?_) hs hpl))
  obtain ⟨a, b, ks, ys, ex, hqx, hqy, q⟩ := q1
  subst ex
  cases r1 with
  | cons r rr =>
    cases rr with
    | cons r' rr =>
      cases rr
      cases r
      cases r'
      obtain ⟨its, rv, pl1, hz1⟩ := I1.list (.inl hqx)
      obtain ⟨its2, rv2, pl2, hz2⟩ := I1.list (.inl hqy)
      have la : a < s1.heap.objs.size := pl1.lt
      have lb : b < s1.heap.objs.size := pl2.lt
      refine call_zip_2 pl1.isList pl2.isList fun h' hz hTI hTO h1 h2 hsz hk => ?_
      obtain ⟨hl, hkeys⟩ := keys_of (P := X.prog) (w := X.w) rv
      have hA : X.A.handled = none := I1.ok.hd hcalm
      let prs : List (Key × Value) := ks.zip its2
      have hpr : PairsHave (mixKind X.prog X.w) (min its.toArray.size its2.toArray.size) (fun i k v => its.toArray[i]? = some k ∧ its2.toArray[i]? = some v) prs := by
        refine ⟨by simp [prs, hl], fun i key v ⟨e1, e2⟩ => ?_⟩
        obtain ⟨k, hk1, hk2⟩ := hkeys i key (by simpa using e1)
        exact ⟨k, by rw [List.getElem?_zip_eq_some]; exact ⟨hk1, by simpa using e2⟩, hk2⟩
      refine call_dict_pairs (s := { s1 with heap := h' }) (knd := mixKind X.prog X.w) (kvs := prs) (PairArg.zip _ _ _ _ _ a b (PySem.W.ktu_apart s1.heap.objs.size a b la lb) its.toArray its2.toArray) hA ⟨hz, hTI, ⟨_, _, hTO⟩, h1, h2, pl1.isList.at fun o e => hk _ o e, pl2.isList.at fun o e => hk _ o e⟩ hpr ?_ fun h3 tk hd3 hk3 => ?_
      · have : its.toArray.size ≤ sizeLine := by rw [List.length_map] at hz1; rw [List.size_toArray, hl]; exact hz1
        omega
      · have kold : ∀ c o, s1.heap.get? c = some o → h3.get? c = some o := fun c o e => hk3 c o (fun hm => by
          have hlt : c < s1.heap.objs.size := Heap.lt_size e
          simp only [List.mem_cons, List.not_mem_nil, or_false] at hm
          rcases hm with z | z | z | z <;> rw [z] at hlt
          · exact absurd hlt (Nat.not_lt.mpr (Nat.le_add_right _ _))
          · exact absurd hlt (Nat.not_lt.mpr (Nat.le_add_right _ _))
          · exact absurd hlt (Nat.lt_irrefl _)
          · exact absurd hlt (Nat.not_lt.mpr (Nat.le_add_right _ _))) (hk _ _ e)
        have hle : s1.heap.objs.size ≤ h'.objs.size := by rw [hsz]; exact Nat.le_add_right _ _
        have hmm : (h'.objs.size == sysModules) = false := beq_eq_false_iff_ne.mpr (Nat.ne_of_gt (Nat.lt_of_lt_of_le I1.big hle))
        have rel : KV (ks.zip ys) prs := kv_zip rv2
        have hlen : (mergeK [] (ks.zip ys)).length ≤ sizeLine := by
          refine Nat.le_trans (length_mergeK _ []) ?_
          rw [List.length_nil, Nat.zero_add, List.length_zip]
          rw [List.length_map] at hz1
          omega
        exact ⟨.ref h'.objs.size, L2.upd H1 h'.objs.size (.dK (mergeK [] (ks.zip ys))), I1.laid (t' := tk) kold hle (show ObjOk X.prog X.w _ _ _ (.dK (mergeK [] (ks.zip ys))) from ⟨hlen, hmm, merged [] prs, KV.merge rel .nil, hd3⟩), rfl, q _ (I1.hok.fresh hle)⟩
def mergeD (kvs more : List (Key × D)) : List (Key × D) := more.foldl (fun acc kv => putD acc kv.1 kv.2) kvs
theorem RepK.merge {w : Wd} : ∀ {more : List (Key × D)} {mv : List (Key × V)} {ds : List (Key × D)} {vs : List (Key × V)}, RepK w more mv → RepK w ds vs → RepK w (mergeD ds more) (mergeK vs mv)
  | [], _, _, _, h, h' => by subst h; exact h'
  | (k, d) :: more, mv, _, _, ⟨v, us, e, h1, h2⟩, h' => by
    subst e
    exact RepK.merge (more := more) (mv := us) h2 (h'.put k h1)
theorem rep_kDs {w : Wd} : ∀ {ks : List Key} {vs : List V}, RepL w (ks.map kD) vs → vs = ks.map kV
  | [], _, h => h
  | k :: ks, _, ⟨v, us, e, h1, h2⟩ => by
    subst e
    rw [List.map_cons, rep_kDs h2]
    cases k with
    | _ => first | (have h1 : v = _ := h1; rw [h1]; rfl)
theorem repK_zip {w : Wd} : ∀ {ks : List Key} {ys : List D} {us : List V}, RepL w ys us → RepK w (ks.zip ys) (ks.zip us)
  | [], _, _, _ => by rw [List.zip_nil_left, List.zip_nil_left]; rfl
  | k :: ks, [], _, h => by subst h; rfl
  | k :: ks, y :: ys, _, ⟨v, us, e, h1, h2⟩ => by subst e; exact ⟨v, _, rfl, h1, repK_zip h2⟩
def kZipD : KC := k2 fun d d' P => ∃ (ks : List Key) (ys : List D), d = .lst (ks.map kD) ∧ d' = .lst ys ∧ P (.new (.dic (mergeD [] (ks.zip ys))))
theorem cx_zipD : CallX rDZip kZipD := callX2 fun w H d d' v v' P Q le rd rd' hk hq => by
  obtain ⟨ks, ys, rfl, rfl, hk⟩ := hk
  obtain ⟨a, vs, rfl, h1, h2⟩ := rd
  obtain ⟨b, us, rfl, h3, h4⟩ := rd'
  have e := rep_kDs h2
  subst e
  refine ⟨a, b, ks, us, rfl, h1, h3, fun p hp => ?_⟩
  exact hq.new p _ (.dic (mergeD [] (ks.zip ys))) hp ⟨_, L2.upd_same, (RepK.merge (repK_zip h4) (ds := []) (vs := []) rfl)⟩ hk
theorem de_dzip {fr : WR} (hm : X.mg "zip" = none) (hm2 : X.mg "dict" = none) (hg : Gl X "zip" := by rfl) (hg2 : Gl X "dict" := by rfl) (ha : DR X [e, e2] fr) (hcalm : X.calm = true := by rfl)
    (hs : starEach [e, e2] X.env = (false, eval e X.env) :: starEach [e2] X.env := by rfl) (hpl : (backTo pos2 (starEach [e2] X.env)).any (·.1) = false := by rfl)
    (hs2 : starEach [.Call (.Name "zip" p2) [e, e2] [] pos2] X.env = [(false, eval (.Call (.Name "zip" p2) [e, e2] [] pos2) X.env)] := by rfl) : DE X (.Call (.Name "dict" p) [.Call (.Name "zip" p2) [e, e2] [] pos2] [] pos) (fBlt kZipD fr) := by
  obtain ⟨t, pa, hf⟩ := ha
  refine ⟨_, pe_dzip hg hm hg2 hm2 hcalm pa hs hpl hs2, fun B R w σ H ss G Q o hw hq => hf B R w σ H ss _ _ o hw fun vs H1 rs s1 w1 o1 r1 e1 h1 => ?_⟩
  obtain ⟨ds, rd, hk'⟩ := vws_ok o1 r1 h1
  exact cx_zipD w1 H1 ds vs _ Q o1.le rd hk' (fin_of o1 e1 (fun _ h => h) hq)
end
end Vl
namespace Vl
open PySem PySem.Spec L2
open PyProof.Rows hiding St

/-! ### == of dicts of plain data -/
def hitB (kb : List (Key × D)) (p : Key × D) : Bool := match valD kb p.1 with
  | some y => eqD p.2 y
  | none => false
def eqDic (ka kb : List (Key × D)) : Bool := ka.length == kb.length && ka.all (hitB kb)
def rDic (K : PySem.W.Frag) (n : Bool) : R2 := fun x y H Q => ∃ (w : Wd) (a b : Addr) (ka kb : List (Key × D)) (ks ls : List (Key × V)), x = .ref a ∧ y = .ref b ∧ Le w H ∧ RepK w ka ks ∧ RepK w kb ls ∧ Rd H a (.dK ks) ∧ Rd H b (.dK ls) ∧
  (∀ p ∈ ka, shp p.2 = true) ∧ (∀ p ∈ kb, shp p.2 = true) ∧ Q (.bl (n ^^ eqDic ka kb)) H
section
variable {X : Cx} {pins : List (Addr × Obj)} {σ : St} {H : Hp} {s : Shared} {w : Wd}
theorem hits_dic (I : Inv X pins σ H s) (le : Le w H) (hu : X.A.units + 100 < cLine) {kb : List (Key × D)} {ls : List (Key × V)} {vb : List (Key × Value)} (rb : RepK w kb ls) (cb : KV ls vb) (sb : ∀ p ∈ kb, shp p.2 = true) :
    ∀ {ka : List (Key × D)} {ks : List (Key × V)} {va : List (Key × Value)}, RepK w ka ks → KV ks va → (∀ p ∈ ka, shp p.2 = true) → PySem.W.KeqHits X.A.in1 s vb va (ka.all (hitB kb))
  | [], _, _, h, c, _ => by subst h; cases c; exact .nil
  | (k, d) :: ka, _, _, ⟨v, us, e, h1, h2⟩, c, sa => by
    subst e
    cases c with
    | @cons _ q _ qs hq t =>
      obtain ⟨key, x⟩ := q
      obtain ⟨e1, rx⟩ := hq
      have e1 : k = key := e1
      have rx : RelV v x := rx
      subst e1
      have ih := hits_dic I le hu rb cb sb h2 t (fun p hp => sa p (List.mem_cons_of_mem _ hp))
      rw [List.all_cons]
      obtain ⟨g1, g2⟩ := rb.val (k := k)
      have rv := cb.val k
      cases hv : valD kb k with
      | none =>
        rw [g2 hv] at rv
        rw [show hitB kb (k, d) = false by unfold hitB; rw [hv], Bool.false_and]
        exact .miss rv.none_of
      | some y =>
        obtain ⟨v', e', r'⟩ := g1 y hv
        rw [e'] at rv
        obtain ⟨u, hu', ru⟩ := rv.some_of
        rw [show hitB kb (k, d) = eqD d y by unfold hitB; rw [hv]]
        have hy : shp y = true := by
          have : ∃ p ∈ kb, p.2 = y := by
            unfold valD at hv
            obtain ⟨p, hp, e⟩ := Option.map_eq_some_iff.mp hv
            exact ⟨p, List.mem_of_find?_eq_some hp, e⟩
          obtain ⟨p, hp, rfl⟩ := this
          exact sb p hp
        have hd : shp d = true := sa _ List.mem_cons_self
        obtain ⟨as, r1⟩ := Dp.reads I _ v x (rep_dp le d v h1 (shp_lay hd)) rx
        obtain ⟨bs, r2⟩ := Dp.reads I _ v' u (rep_dp le y v' r' (shp_lay hy)) ru
        exact .hit hu' (PySem.W.keq_at r1 r2 hd hy (by show X.A.units + 1 + 64 < cLine; omega)) ih
end
section
variable {X : Cx} {a b : Expr} {pos : Pos} {fa fb : WE}
theorem op_dic_eq (hu : X.A.units + 100 < cLine) : OpR X (compareOp .Eq) (rDic X.K false) := by
  intro pins s σ H x y v u Q I rx ry h
  obtain ⟨w, a, b, ka, kb, ks, ls, rfl, rfl, le, ra, rb, ea, eb, sa, sb, q⟩ := h
  obtain rfl : v = Value.ref a := rx
  obtain rfl : u = Value.ref b := ry
  obtain ⟨_, ya, va, ca, da⟩ := dk_rd I.hok ea
  obtain ⟨_, yb, vb, cb, db⟩ := dk_rd I.hok eb
  refine PySem.W.keq_eq (knd := mixKind X.prog X.w) ya yb da db (by omega) (fun _ => hits_dic I le hu rb cb sb ra ca sa) (fin_bl I q ?_)
  rw [← ca.length, ← cb.length, ra.length, rb.length, Bool.false_xor]; rfl
theorem op_dic_ne (hu : X.A.units + 100 < cLine) : OpR X (compareOp .NotEq) (rDic X.K true) := by
  intro pins s σ H x y v u Q I rx ry h
  obtain ⟨w, a, b, ka, kb, ks, ls, rfl, rfl, le, ra, rb, ea, eb, sa, sb, q⟩ := h
  obtain rfl : v = Value.ref a := rx
  obtain rfl : u = Value.ref b := ry
  obtain ⟨_, ya, va, ca, da⟩ := dk_rd I.hok ea
  obtain ⟨_, yb, vb, cb, db⟩ := dk_rd I.hok eb
  refine PySem.W.keq_ne (knd := mixKind X.prog X.w) ya yb da db (by omega) (fun _ => hits_dic I le hu rb cb sb ra ca sa) (fin_bl I q ?_)
  rw [← ca.length, ← cb.length, ra.length, rb.length, Bool.true_xor]; rfl
def kDic (n : Bool) : KK := fun a b P => ∃ ka kb, a = .dic ka ∧ b = .dic kb ∧ (∀ p ∈ ka, shp p.2 = true) ∧ (∀ p ∈ kb, shp p.2 = true) ∧ P (.val (.bl (n ^^ eqDic ka kb)))
theorem ox_dic (n : Bool) : OpX X (rDic X.K n) (kDic n) := fun w H a b x y P Q le ra rb hk hq => by
  obtain ⟨ka, kb, rfl, rfl, sa, sb, h⟩ := hk
  obtain ⟨p, ks, rfl, h1, h2⟩ := ra
  obtain ⟨q, ls, rfl, h3, h4⟩ := rb
  exact ⟨w, p, q, ka, kb, ks, ls, rfl, rfl, le, h2, h4, h1, h3, sa, sb, hq.old _ (.bl _) rfl h⟩
def kEqX : KK := fun a b P => kEq a b P ∨ kDic false a b P
def kNeX : KK := fun a b P => kNe a b P ∨ kDic true a b P
theorem de_eqX (hu : X.A.units + 100 < cLine) (ha : DE X a fa) (hb : DE X b fb) : DE X (.Compare a [.Eq] [b] pos) (fOp kEqX fa fb) := de_cmp ((op_eq.or (op_eqD (by omega))).or (op_dic_eq hu)) (ox_eq.or (ox_dic false)) (nomark _) ha hb
theorem de_neX (hu : X.A.units + 100 < cLine) (ha : DE X a fa) (hb : DE X b fb) : DE X (.Compare a [.NotEq] [b] pos) (fOp kNeX fa fb) := de_cmp ((op_ne.or (op_neD (by omega))).or (op_dic_ne hu)) (ox_ne.or (ox_dic true)) (nomark _) ha hb
theorem dt_eqX (hu : X.A.units + 100 < cLine) (ha : DE X a fa) (hb : DE X b fb) : DT X (.Compare a [.Eq] [b] pos) (fT (fOp kEqX fa fb)) := dt_cmp ((op_eq.or (op_eqD (by omega))).or (op_dic_eq hu)) (ox_eq.or (ox_dic false)) (nomark _) ha hb
theorem dt_neX (hu : X.A.units + 100 < cLine) (ha : DE X a fa) (hb : DE X b fb) : DT X (.Compare a [.NotEq] [b] pos) (fT (fOp kNeX fa fb)) := dt_cmp ((op_ne.or (op_neD (by omega))).or (op_dic_ne hu)) (ox_ne.or (ox_dic true)) (nomark _) ha hb
end
theorem hUX {A : Around} {k : Nat} (hr : RoomG k A) : A.units + 100 < cLine := by have := hr.un; omega
/-! ### typed: dicts of texts -/
theorem x_eqX_d {ka kb : List (Key × D)} {P : Re → Prop} : kEqX (.dic ka) (.dic kb) P = ((∀ p ∈ ka, shp p.2 = true) ∧ (∀ p ∈ kb, shp p.2 = true) ∧ P (.val (.bl (eqDic ka kb)))) := propext ⟨fun h => by
  rcases h with h | ⟨_, _, e1, e2, h⟩
  · rcases h.1 with h | h
    · cases h
    · cases h.1
  · cases e1; cases e2; rw [Bool.false_xor] at h; exact h, fun h => .inr ⟨_, _, rfl, rfl, by rw [Bool.false_xor]; exact h⟩⟩
theorem x_neX_d {ka kb : List (Key × D)} {P : Re → Prop} : kNeX (.dic ka) (.dic kb) P = ((∀ p ∈ ka, shp p.2 = true) ∧ (∀ p ∈ kb, shp p.2 = true) ∧ P (.val (.bl (!eqDic ka kb)))) := propext ⟨fun h => by
  rcases h with h | ⟨_, _, e1, e2, h⟩
  · rcases h.1 with h | h
    · cases h
    · cases h.1
  · cases e1; cases e2; rw [Bool.true_xor] at h; exact h, fun h => .inr ⟨_, _, rfl, rfl, by rw [Bool.true_xor]; exact h⟩⟩
theorem x_eqX {a b : D} {P : Re → Prop} (h : (∃ ka kb, a = .dic ka ∧ b = .dic kb) → False) : kEqX a b P = kEq a b P := propext ⟨fun z => z.elim id fun ⟨_, _, e1, e2, _⟩ => (h ⟨_, _, e1, e2⟩).elim, .inl⟩
theorem x_neX {a b : D} {P : Re → Prop} (h : (∃ ka kb, a = .dic ka ∧ b = .dic kb) → False) : kNeX a b P = kNe a b P := propext ⟨fun z => z.elim id fun ⟨_, _, e1, e2, _⟩ => (h ⟨_, _, e1, e2⟩).elim, .inl⟩
theorem x_eqX_l {b : D} {xs : List D} {P : Re → Prop} : kEqX (.lst xs) b P = kEq (.lst xs) b P := x_eqX fun ⟨_, _, e, _⟩ => by cases e
theorem x_eqX_n {b : D} {P : Re → Prop} : kEqX .non b P = kEq .non b P := x_eqX fun ⟨_, _, e, _⟩ => by cases e
theorem x_eqX_i {b : D} {i : Int} {P : Re → Prop} : kEqX (.int i) b P = kEq (.int i) b P := x_eqX fun ⟨_, _, e, _⟩ => by cases e
theorem x_eqX_s {b : D} {i : Str} {P : Re → Prop} : kEqX (.str i) b P = kEq (.str i) b P := x_eqX fun ⟨_, _, e, _⟩ => by cases e
theorem x_eqX_t {b : D} {xs : List D} {P : Re → Prop} : kEqX (.tup xs) b P = kEq (.tup xs) b P := x_eqX fun ⟨_, _, e, _⟩ => by cases e
theorem x_neX_l {b : D} {xs : List D} {P : Re → Prop} : kNeX (.lst xs) b P = kNe (.lst xs) b P := x_neX fun ⟨_, _, e, _⟩ => by cases e
theorem x_neX_n {b : D} {P : Re → Prop} : kNeX .non b P = kNe .non b P := x_neX fun ⟨_, _, e, _⟩ => by cases e
theorem x_neX_i {b : D} {i : Int} {P : Re → Prop} : kNeX (.int i) b P = kNe (.int i) b P := x_neX fun ⟨_, _, e, _⟩ => by cases e
theorem x_neX_s {b : D} {i : Str} {P : Re → Prop} : kNeX (.str i) b P = kNe (.str i) b P := x_neX fun ⟨_, _, e, _⟩ => by cases e
theorem x_eqX_b {b : D} {u : Bool} {P : Re → Prop} : kEqX (.bl u) b P = kEq (.bl u) b P := x_eqX fun ⟨_, _, e, _⟩ => by cases e
theorem x_neX_b {b : D} {u : Bool} {P : Re → Prop} : kNeX (.bl u) b P = kNe (.bl u) b P := x_neX fun ⟨_, _, e, _⟩ => by cases e
theorem x_neX_t {b : D} {xs : List D} {P : Re → Prop} : kNeX (.tup xs) b P = kNe (.tup xs) b P := x_neX fun ⟨_, _, e, _⟩ => by cases e
theorem x_zipD {ks : List Key} {xs ys : List D} {P : Re → Prop} (h : xs = ks.map kD) : P (.new (.dic (mergeD [] (ks.zip ys)))) → kZipD [.lst xs, .lst ys] P := fun z => ⟨ks, ys, by rw [h], rfl, z⟩
/-- a dict of texts to data by a list of pairs whose first ones differ -/
def kP {β : Type} (e : β → D) (l : List (Str × β)) : List (Key × D) := l.map fun p => (.inr p.1, e p.2)
def putS {β : Type} (l : List (Str × β)) (x : Str) (v : β) : List (Str × β) := if (l.any fun p => decide (p.1 = x)) = true then l.map fun p => if p.1 = x then (p.1, v) else p else l ++ [(x, v)]
def getS {β : Type} (l : List (Str × β)) (x : Str) : Option β := (l.find? fun p => decide (p.1 = x)).map (·.2)
theorem putD_kP {β : Type} {e : β → D} {l : List (Str × β)} {x : Str} {v : β} : putD (kP e l) (.inr x) (e v) = kP e (putS l x v) := by
  unfold putD putS kP
  rw [List.any_map]
  have hk : ((fun kv : Key × D => decide (kv.1 = .inr x)) ∘ fun p : Str × β => (.inr p.1, e p.2)) = fun p => decide (p.1 = x) := by
    funext p
    show decide ((Sum.inr p.1 : Key) = .inr x) = decide (p.1 = x)
    rw [Bool.eq_iff_iff, decide_eq_true_iff, decide_eq_true_iff]
    exact ⟨fun z => by cases z; rfl, fun z => by rw [z]⟩
  rw [hk]
  split
  · rw [List.map_map, List.map_map]
    refine List.map_congr_left fun p _ => ?_
    show (if (Sum.inr p.1 : Key) = .inr x then (Sum.inr p.1, e v) else (Sum.inr p.1, e p.2)) = _
    by_cases q : p.1 = x
    · rw [if_pos (by rw [q])]
      show _ = ((Sum.inr (if p.1 = x then (p.1, v) else p).1 : Key), e (if p.1 = x then (p.1, v) else p).2)
      rw [if_pos q]
    · rw [if_neg (fun z => q (by cases z; rfl))]
      show _ = ((Sum.inr (if p.1 = x then (p.1, v) else p).1 : Key), e (if p.1 = x then (p.1, v) else p).2)
      rw [if_neg q]
  · rw [List.map_append]; rfl
theorem valD_kP {β : Type} {e : β → D} : ∀ {l : List (Str × β)} {x : Str}, valD (kP e l) (.inr x) = (getS l x).map e
  | [], _ => rfl
  | p :: l, x => by
    have ih := valD_kP (e := e) (l := l) (x := x)
    unfold valD getS kP at *
    rw [List.map_cons, List.find?_cons, List.find?_cons]
    by_cases q : p.1 = x
    · have h1 : decide ((Sum.inr p.1 : Key) = .inr x) = true := decide_eq_true (by rw [q])
      simp only [h1, decide_eq_true q]; rfl
    · have h1 : decide ((Sum.inr p.1 : Key) = .inr x) = false := decide_eq_false fun z => q (by cases z; rfl)
      simp only [h1, decide_eq_false q]; exact ih
end Vl
namespace Vl
open PySem PySem.Spec L2
open PyProof.Rows hiding St

/-! ### dicts of texts by lists of pairs -/
section
variable {β : Type}
def keysS (l : List (Str × β)) : List Str := l.map (·.1)
theorem any_keysS {l : List (Str × β)} {x : Str} : (l.any fun p => decide (p.1 = x)) = decide (x ∈ keysS l) := by
  unfold keysS
  rw [Bool.eq_iff_iff, List.any_eq_true, decide_eq_true_iff, List.mem_map]
  constructor
  · rintro ⟨p, hp, q⟩; exact ⟨p, hp, of_decide_eq_true q⟩
  · rintro ⟨p, hp, q⟩; exact ⟨p, hp, decide_eq_true q⟩
theorem keys_putS {l : List (Str × β)} {x : Str} {v : β} : keysS (putS l x v) = uqF (keysS l) x := by
  unfold putS uqF
  rw [any_keysS]
  by_cases h : x ∈ keysS l
  · rw [if_pos (decide_eq_true h), if_pos h]
    unfold keysS
    rw [List.map_map]
    refine List.map_congr_left fun p _ => ?_
    show (if p.1 = x then (p.1, v) else p).1 = p.1
    split <;> rfl
  · rw [if_neg (by rw [decide_eq_false h]; exact Bool.false_ne_true), if_neg h]
    unfold keysS
    rw [List.map_append]; rfl
theorem len_putS (l : List (Str × β)) (x : Str) (v : β) : (putS l x v).length ≤ l.length + 1 := by
  unfold putS
  split
  · rw [List.length_map]; omega
  · rw [List.length_append]; exact Nat.le_refl _
def putsS (acc m : List (Str × β)) : List (Str × β) := m.foldl (fun acc p => putS acc p.1 p.2) acc
theorem len_putsS : ∀ (m acc : List (Str × β)), (putsS acc m).length ≤ acc.length + m.length
  | [], acc => Nat.le_refl _
  | p :: m, acc => by
    have h1 := len_putsS m (putS acc p.1 p.2)
    have h2 := len_putS acc p.1 p.2
    show (putsS (putS acc p.1 p.2) m).length ≤ _
    rw [List.length_cons]; omega
theorem keys_putsS : ∀ (m acc : List (Str × β)), keysS (putsS acc m) = (keysS m).foldl uqF (keysS acc)
  | [], acc => rfl
  | p :: m, acc => by
    show keysS (putsS (putS acc p.1 p.2) m) = (keysS m).foldl uqF (uqF (keysS acc) p.1)
    rw [keys_putsS, keys_putS]
theorem nodup_putsS {m acc : List (Str × β)} (h : (keysS acc).Nodup) : (keysS (putsS acc m)).Nodup := by
  rw [keys_putsS]; exact nodup_uqL _ _ h
theorem vals_putS {Q : β → Prop} {l : List (Str × β)} {x : Str} {v : β} (h : ∀ p ∈ l, Q p.2) (hv : Q v) : ∀ p ∈ putS l x v, Q p.2 := by
  intro p hp
  unfold putS at hp
  split at hp
  · obtain ⟨q, hq, rfl⟩ := List.mem_map.mp hp
    show Q (if q.1 = x then (q.1, v) else q).2
    split
    · exact hv
    · exact h q hq
  · rcases List.mem_append.mp hp with hp | hp
    · exact h p hp
    · rw [List.mem_singleton.mp hp]; exact hv
theorem vals_putsS {Q : β → Prop} : ∀ {m acc : List (Str × β)}, (∀ p ∈ acc, Q p.2) → (∀ p ∈ m, Q p.2) → ∀ p ∈ putsS acc m, Q p.2
  | [], acc, h, _ => h
  | q :: m, acc, h, h' => vals_putsS (m := m) (acc := putS acc q.1 q.2) (vals_putS h (h' q List.mem_cons_self)) fun p hp => h' p (List.mem_cons_of_mem _ hp)
theorem getS_mem : ∀ {l : List (Str × β)} (_ : (keysS l).Nodup) {p : Str × β} (_ : p ∈ l), getS l p.1 = some p.2
  | q :: l, nd, p, h => by
    unfold getS
    rw [List.find?_cons]
    rcases List.mem_cons.mp h with rfl | h
    · rw [decide_eq_true rfl]; rfl
    · have hne : ¬ q.1 = p.1 := fun e => by
        have nd' : (q.1 :: keysS l).Nodup := nd
        exact (List.nodup_cons.mp nd').1 (e ▸ List.mem_map.mpr ⟨p, h, rfl⟩)
      rw [decide_eq_false hne]
      exact getS_mem (l := l) (List.nodup_cons.mp (show (q.1 :: keysS l).Nodup from nd)).2 h
theorem getS_some : ∀ {l : List (Str × β)} {x : Str} {v : β}, getS l x = some v → (x, v) ∈ l
  | l, x, v, h => by
    obtain ⟨p, hp, e⟩ := Option.map_eq_some_iff.mp h
    have := List.find?_some hp
    have e1 : p.1 = x := of_decide_eq_true this
    have hm := List.mem_of_find?_eq_some hp
    rw [← e1, ← e]; exact hm
theorem getS_none {l : List (Str × β)} {x : Str} : getS l x = none ↔ x ∉ keysS l := by
  unfold getS
  rw [Option.map_eq_none_iff, List.find?_eq_none]
  constructor
  · intro h m
    obtain ⟨p, hp, e⟩ := List.mem_map.mp m
    exact h p hp (decide_eq_true e)
  · intro h p hp q
    exact h (List.mem_map.mpr ⟨p, hp, of_decide_eq_true q⟩)
theorem eqDic_kP [DecidableEq β] {e : β → D} (he : EqE e) {a b : List (Str × β)} : eqDic (kP e a) (kP e b) = (a.length == b.length && a.all fun p => decide (getS b p.1 = some p.2)) := by
  unfold eqDic
  congr 1
  · unfold kP; rw [List.length_map, List.length_map]
  · show (a.map fun p => ((.inr p.1 : Key), e p.2)).all (hitB (kP e b)) = _
    rw [List.all_map]
    refine List.all_congr rfl fun p => ?_
    show hitB (kP e b) (.inr p.1, e p.2) = _
    unfold hitB
    rw [valD_kP]
    cases getS b p.1 with
    | none => rfl
    | some y =>
      show eqD (e p.2) (e y) = _
      rw [he, Bool.eq_iff_iff, decide_eq_true_iff, decide_eq_true_iff]
      exact ⟨fun z => by rw [z], fun z => by cases z; rfl⟩
theorem eqDic_self [DecidableEq β] {e : β → D} (he : EqE e) {a : List (Str × β)} (nd : (keysS a).Nodup) : eqDic (kP e a) (kP e a) = true := by
  rw [eqDic_kP he, beq_self_eq_true, Bool.true_and, List.all_eq_true]
  exact fun p hp => decide_eq_true (getS_mem nd hp)
theorem shp_kP {e : β → D} {a : List (Str × β)} (h : ∀ p ∈ a, shp (e p.2) = true) : ∀ p ∈ kP e a, shp p.2 = true := fun p hp => by
  obtain ⟨q, hq, rfl⟩ := List.mem_map.mp hp
  exact h _ hq
theorem len_kP {e : β → D} {a : List (Str × β)} : (kP e a).length = a.length := List.length_map ..
theorem mergeD_kP {e : β → D} : ∀ (m acc : List (Str × β)), mergeD (kP e acc) (kP e m) = kP e (putsS acc m)
  | [], acc => rfl
  | p :: m, acc => by
    show mergeD (putD (kP e acc) (.inr p.1) (e p.2)) (kP e m) = _
    rw [putD_kP, mergeD_kP m]; rfl
theorem zip_kP {e : β → D} (l : List Str) (l' : List β) : (l.map (fun x => (.inr x : Key))).zip (l'.map e) = kP e (l.zip l') := by
  unfold kP
  rw [List.zip_map]
  rfl
end
theorem zip_dS (l l' : List Str) : zipD (l.map D.str) (l'.map D.str) = (l.zip l').map dSt := by
  induction l generalizing l' with
  | nil => rfl
  | cons a l ih =>
    cases l' with
    | nil => rfl
    | cons b l' => show D.tup [D.str a, .str b] :: zipD (l.map D.str) (l'.map D.str) = _; rw [ih]; rfl
end Vl
namespace Vl
open PySem PySem.Spec L2
open PyProof.Rows hiding St

/-! ### == of written data, by rewriting -/
def eqL (xs ys : List D) : Bool := PyData.eqvAll (toPyL xs) (toPyL ys)
section
variable {α : Type} {xs ys : List D} {a b : D} {i : Int} {s : Str} {u : Bool}
theorem eqD_ll : eqD (.lst xs) (.lst ys) = eqL xs ys := Bool.eq_iff_iff.mpr Iff.rfl
theorem eqD_tt : eqD (.tup xs) (.tup ys) = eqL xs ys := Bool.eq_iff_iff.mpr Iff.rfl
theorem eqL_00 : eqL [] [] = true := Bool.eq_iff_iff.mpr Iff.rfl
theorem eqL_01 : eqL [] (b :: ys) = false := Bool.eq_iff_iff.mpr Iff.rfl
theorem eqL_10 : eqL (a :: xs) [] = false := Bool.eq_iff_iff.mpr Iff.rfl
theorem eqL_11 : eqL (a :: xs) (b :: ys) = (eqD a b && eqL xs ys) := Bool.eq_iff_iff.mpr Iff.rfl
theorem eqD_nn : eqD .non .non = true := Bool.eq_iff_iff.mpr Iff.rfl
theorem eqD_nl : eqD .non (.lst ys) = false := Bool.eq_iff_iff.mpr Iff.rfl
theorem eqD_nt : eqD .non (.tup ys) = false := Bool.eq_iff_iff.mpr Iff.rfl
theorem eqD_ni : eqD .non (.int i) = false := Bool.eq_iff_iff.mpr Iff.rfl
theorem eqD_ns : eqD .non (.str s) = false := Bool.eq_iff_iff.mpr Iff.rfl
theorem eqD_nb : eqD .non (.bl u) = false := Bool.eq_iff_iff.mpr Iff.rfl
theorem eqD_ln : eqD (.lst ys) .non = false := Bool.eq_iff_iff.mpr Iff.rfl
theorem eqD_tn : eqD (.tup ys) .non = false := Bool.eq_iff_iff.mpr Iff.rfl
theorem eqD_in : eqD (.int i) .non = false := Bool.eq_iff_iff.mpr Iff.rfl
theorem eqD_sn : eqD (.str s) .non = false := Bool.eq_iff_iff.mpr Iff.rfl
theorem eqD_bn : eqD (.bl u) .non = false := Bool.eq_iff_iff.mpr Iff.rfl
theorem eqD_lt : eqD (.lst xs) (.tup ys) = false := Bool.eq_iff_iff.mpr Iff.rfl
theorem eqD_tl : eqD (.tup xs) (.lst ys) = false := Bool.eq_iff_iff.mpr Iff.rfl
theorem eqL_m0 {e : α → D} {as : List α} : eqL (as.map e) [] = decide (as = []) := by cases as <;> rfl
theorem eqL_0m {e : α → D} {as : List α} : eqL [] (as.map e) = decide (as = []) := by cases as <;> rfl
theorem eqL_m [DecidableEq α] {e : α → D} (he : EqE e) {as bs : List α} : eqL (as.map e) (bs.map e) = decide (as = bs) := eqE_lst he as bs
theorem eqL_S {as bs : List Str} : eqL (as.map D.str) (bs.map D.str) = decide (as = bs) := eqL_m eqE_str
theorem eqL_I {as bs : List Int} : eqL (as.map D.int) (bs.map D.int) = decide (as = bs) := eqL_m eqE_int
theorem eqL_same {n : Nat} (h : ∀ d ∈ xs, ly n d) : eqL xs xs = true := eqD_same (ly_lst h)
/-- plain data of few levels may be compared -/
theorem cmp_nl : cmpOk .non (.lst ys) = (shp (.lst ys) = true) := propext ⟨fun h => h.elim (fun z => by cases z) (·.2), fun h => .inr ⟨rfl, h⟩⟩
theorem cmp_ln : cmpOk (.lst ys) .non = (shp (.lst ys) = true) := propext ⟨fun h => h.elim (fun z => by cases z) (·.1), fun h => .inr ⟨h, rfl⟩⟩
theorem cmp_nt : cmpOk .non (.tup ys) = (shp (.tup ys) = true) := propext ⟨fun h => h.elim (fun z => by cases z) (·.2), fun h => .inr ⟨rfl, h⟩⟩
theorem cmp_tn : cmpOk (.tup ys) .non = (shp (.tup ys) = true) := propext ⟨fun h => h.elim (fun z => by cases z) (·.1), fun h => .inr ⟨h, rfl⟩⟩
theorem cmp_nn : cmpOk .non .non = True := eq_true (.inl rfl)
theorem cmp_ns : cmpOk .non (.str s) = True := eq_true (.inl rfl)
theorem cmp_sn : cmpOk (.str s) .non = True := eq_true (.inl rfl)
theorem cmp_ni : cmpOk .non (.int i) = True := eq_true (.inl rfl)
theorem cmp_in : cmpOk (.int i) .non = True := eq_true (.inl rfl)
end
end Vl
set_option maxHeartbeats 1000000
namespace Vl
open PySem PySem.Spec L2
open PyProof.Rows hiding St

/-! ### min of texts, sorted the other way round, remove, pop -/
def rMinT (K : PySem.W.Frag) : List V → Hp → VK → Prop := fun vs H Q => ∃ (a : Addr) (ns : List Str), vs = [V.ref a] ∧ SqL K H a (ns.map V.str) ∧ ns ≠ [] ∧ ∀ M ∈ ns, (∀ x ∈ ns, sle M x = true) → Q (.str M) H
section
variable {X : Cx}
theorem sle_of_not_lt {x y : Str} (h : ¬ x.cps.toList < y.cps.toList) : sle y x = true := decide_eq_true (List.not_lt.mp h)
theorem minF (ns : List Str) : ∀ x : Str, (ns.foldl (fun a y => if PySem.W.dataLt (PyData.str y) (PyData.str a) then y else a) x) ∈ x :: ns ∧ ∀ z ∈ x :: ns, sle (ns.foldl (fun a y => if PySem.W.dataLt (PyData.str y) (PyData.str a) then y else a) x) z = true := by
  induction ns with
  | nil => intro x; exact ⟨List.mem_cons_self, fun z hz => by rw [List.mem_singleton.mp hz]; exact decide_eq_true (List.le_refl _)⟩
  | cons y ns ih =>
    intro x
    rw [List.foldl_cons]
    have key : ∀ u : Str, (u = x ∨ u = y) → sle u x = true → sle u y = true → (ns.foldl (fun a y => if PySem.W.dataLt (PyData.str y) (PyData.str a) then y else a) u) ∈ x :: y :: ns ∧ ∀ z ∈ x :: y :: ns, sle (ns.foldl (fun a y => if PySem.W.dataLt (PyData.str y) (PyData.str a) then y else a) u) z = true := fun u hu h1 h2 => by
      obtain ⟨a1, a2⟩ := ih u
      have au := a2 u List.mem_cons_self
      refine ⟨?_, fun z hz => ?_⟩
      · rcases List.mem_cons.mp a1 with e | m
        · rw [e]
          rcases hu with e | e
          · rw [e]; exact List.mem_cons_self
          · rw [e]; exact List.mem_cons_of_mem _ List.mem_cons_self
        · exact List.mem_cons_of_mem _ (List.mem_cons_of_mem _ m)
      · rcases List.mem_cons.mp hz with e | hz
        · rw [e]; exact sle_trans _ _ _ au h1
        · rcases List.mem_cons.mp hz with e | hz
          · rw [e]; exact sle_trans _ _ _ au h2
          · exact a2 z (List.mem_cons_of_mem _ hz)
    have sr : ∀ u : Str, sle u u = true := fun u => decide_eq_true (List.le_refl _)
    by_cases c : PySem.W.dataLt (PyData.str y) (PyData.str x) = true
    · rw [if_pos c]
      refine key y (.inr rfl) (decide_eq_true (List.le_of_lt ?_)) (sr y)
      simpa [PySem.W.dataLt_str] using c
    · rw [if_neg c]
      refine key x (.inl rfl) (sr x) (sle_of_not_lt ?_)
      simpa [PySem.W.dataLt_str] using c
theorem minF_D (ns : List Str) : ∀ x : Str, PySem.W.minD (PyData.str x) (ns.map fun y => PyData.str y) = PyData.str (ns.foldl (fun a y => if PySem.W.dataLt (PyData.str y) (PyData.str a) then y else a) x) := by
  unfold PySem.W.minD
  induction ns with
  | nil => intro x; rfl
  | cons y ns ih =>
    intro x
    rw [List.map_cons, List.foldl_cons, List.foldl_cons]
    by_cases c : PySem.W.dataLt (PyData.str y) (PyData.str x) = true
    · rw [if_pos c, if_pos c]; exact ih y
    · rw [if_neg c, if_neg c]; exact ih x
theorem reads_strs {h : Heap} : ∀ {ns : List Str} {vs : List Value}, Vals (ns.map V.str) vs → ReadsAll h vs (ns.map fun y => PyData.str y) []
  | [], _, .nil => .nil
  | _ :: _, _, .cons r t => by
    obtain ⟨tk, rfl⟩ := r
    exact .cons (.str _ tk) (reads_strs t)
theorem depth_ss : ∀ ns : List Str, PyData.depthAll (ns.map fun y => PyData.str y) = 0
  | [] => rfl
  | x :: xs => by
    rw [List.map_cons]
    unfold PyData.depthAll
    rw [depth_ss xs]; rfl
theorem cr_minT (hh : X.A.handled = none) (hu : X.A.units + 64 < cLine) : CallR X (.builtin "min") (rMinT X.K) := by
  intro pins s σ H vs us Q I r h
  obtain ⟨a, ns, rfl, hs, hne, q⟩ := h
  obtain ⟨its, rv, hL, hz⟩ := I.list hs
  rw [Vals.ref1 r]
  cases ns with
  | nil => exact absurd rfl hne
  | cons n ns =>
    have al : PySem.W.AlikeAll ((n :: ns).map fun y => PyData.str y) := by
      refine ⟨fun x hx y hy => ?_, fun x hx => ?_⟩
      · obtain ⟨x, _, rfl⟩ := List.mem_map.mp hx
        obtain ⟨y, _, rfl⟩ := List.mem_map.mp hy
        rfl
      · obtain ⟨x, _, rfl⟩ := List.mem_map.mp hx
        exact fun z => by cases z
    have rd := reads_strs (h := s.heap) rv
    have dp := depth_ss (n :: ns)
    rw [List.map_cons] at al dp rd
    refine PySem.W.min_list_data hh hL.isList (by simpa using rd) al (by rw [dp]; omega) fun i v h' tk bs hv hr hk => ?_
    rw [minF_D] at hr
    obtain ⟨m1, m2⟩ := minF ns n
    generalize (ns.foldl (fun a y => if PySem.W.dataLt (PyData.str y) (PyData.str a) then y else a) n) = M at hr m1 m2
    cases hr with
    | str _ t => exact ⟨.str M, H, I.kept hk, ⟨t, rfl⟩, q M m1 m2⟩
variable {a b e o : Expr} {pos p apos cpos : Pos} {fr : WR} {fo fe : WE}
theorem bt_min' : bootBuiltins "min" = some (.builtin "min") := by decide +kernel
def kMinT : KC := k1 fun d P => match d with
  | .lst xs => ∃ ns : List Str, xs = ns.map D.str ∧ ns ≠ [] ∧ ∀ M ∈ ns, (∀ x ∈ ns, sle M x = true) → P (.val (.str M))
  | _ => False
theorem cx_minT : CallX (rMinT X.K) kMinT := callX1 fun w H d v P Q le rd hk hq => by
  split at hk
  · obtain ⟨ns, rfl, hne, hp⟩ := hk
    obtain ⟨l, vs, rfl, h1, h2⟩ := rd
    obtain rfl := RepL.strs h2
    exact ⟨l, ns, rfl, .inl h1, hne, fun M hM hl => hq.old _ (.str M) rfl (hp M hM hl)⟩
  · exact hk.elim
theorem de_minT (hh : X.A.handled = none) (hu : X.A.units + 64 < cLine) (hm : X.mg "min" = none) (hg : Gl X "min" := by rfl) (ha : DR X [e] fr) (he : starEach [e] X.env = [(false, eval e X.env)] := by rfl) : DE X (.Call (.Name "min" p) [e] [] pos) (fBlt kMinT fr) :=
  de_blt (cr_minT hh hu) cx_minT hm bt_min' hg ha (by decide) (by decide) he rfl
theorem x_minT {xs : List D} {P : Re → Prop} : kMinT [.lst xs] P = ∃ ns : List Str, xs = ns.map D.str ∧ ns ≠ [] ∧ ∀ M ∈ ns, (∀ x ∈ ns, sle M x = true) → P (.val (.str M)) := propext Iff.rfl
end
end Vl
set_option maxHeartbeats 1000000
namespace Vl
open PySem PySem.Spec L2
open PyProof.Rows hiding St

/-! ### len(set(texts)); sorted the other way round; remove; pop -/
section
variable {X : Cx} {a e o : Expr} {ta : TE} {p p2 q pos apos cpos : Pos} {fo fe fa : WE}
theorem bt_len' : bootBuiltins "len" = some (.builtin "len") := by decide +kernel
def tLenSet (K : PySem.W.Frag) (ta : TE) : TE := fun σ H Q => ta σ H fun x H1 => ∃ (l : Addr) (ns : List Str), x = .ref l ∧ SqL K H1 l (ns.map V.str) ∧ ns.length ≤ 4000 ∧ Q (.int (uq ns).length) H1
theorem pe_lenSet (hc : X.calm = true) (hg : Gl X "len") (hm : X.mg "len" = none) (hg2 : Gl X "set") (hm2 : X.mg "set" = none) (ha : PE X a ta)
    (na : starEach [a] X.env = (false, eval a X.env) :: starEach [] X.env := by rfl) : PE X (.Call (.Name "len" p) [.Call (.Name "set" p2) [a] [] q] [] pos) (tLenSet X.K ta) := by
  refine ⟨fun pins s σ H Q I h => ?_⟩
  refine Call_ (ld_blt I hg hm bt_len' ?_)
  refine PyProof.Rows.callWith_builtin1 (PyProof.Rows.args_cons ?_ rfl) rfl rfl
  refine Call_ (ld_blt I hg2 hm2 bt_set ?_)
  refine PyProof.Rows.callWith_type1 (PyProof.Rows.args_cons (thn (ha.run pins s σ H _ I h) fun v s1 ⟨x, H1, I1, r1, q1⟩ => PyProof.Rows.args_nil ?_) na) na rfl
  obtain ⟨l, ns, rfl, sq, few, q1⟩ := q1
  cases r1
  obtain ⟨its, r, pl, hz⟩ := I1.list sq
  have sx : PyProof.Rows.StrsAre its.toArray.toList ns := by simpa using strsAre_of r
  refine call_setT (I1.ok.hd hc) pl.isList sx (by unfold scanBound; omega) fun h' tk T keep => ?_
  refine PyProof.Rows.args_nil ?_
  have I2 : Inv X pins σ H1 { s1 with heap := h', toks := tk } := I1.kept fun b o e => keep b o (Heap.lt_size e) e
  obtain ⟨o, es, ep, t, at0, ex, dat, g, pm, nd, fw, fit, ris, led⟩ := T
  have le : es.size = (uq ns).length := by rw [← pm.length_eq, List.length_map, Array.length_toList]
  have lu := len_uq ns
  refine call_len_set (s := { s1 with heap := h', toks := tk }) at0 ex dat fit (by omega) ⟨.int (uq ns).length, H1, I2.tok _, ⟨_, by rw [le]⟩, q1⟩
def kLenSet (d : D) (P : Re → Prop) : Prop := match d with
  | .lst xs => ∃ ns : List Str, xs = ns.map D.str ∧ ns.length ≤ 4000 ∧ P (.val (.int (uq ns).length))
  | _ => False
def fLenSet (fa : WE) : WE := fun ss G => fa ss fun r s => vw r s fun d => kLenSet d fun r => G r s
theorem de_lenSet (hc : X.calm = true) (hm : X.mg "len" = none) (hm2 : X.mg "set" = none) (ha : DE X a fa) (hg : Gl X "len" := by rfl) (hg2 : Gl X "set" := by rfl)
    (na : starEach [a] X.env = (false, eval a X.env) :: starEach [] X.env := by rfl) : DE X (.Call (.Name "len" p) [.Call (.Name "set" p2) [a] [] q] [] pos) (fLenSet fa) := by
  obtain ⟨t, pa, hf⟩ := ha
  refine ⟨_, pe_lenSet hc hg hm hg2 hm2 pa na, fun B R w σ H ss G Q o hw hq => hf B R w σ H ss _ _ o hw fun v H1 r s1 w1 o1 r1 e1 h1 => ?_⟩
  obtain ⟨d, rd, hk⟩ := vw_ok o1 r1 h1
  unfold kLenSet at hk
  split at hk
  · obtain ⟨ns, rfl, few, hk⟩ := hk
    obtain ⟨l, vs, rfl, g1, g2⟩ := rd
    obtain rfl := RepL.strs g2
    exact ⟨l, ns, rfl, .inl g1, few, hq _ _ (.val (.int _)) s1 w1 o1 rfl e1 hk⟩
  · exact hk.elim
theorem x_lenSet {xs : List D} {P : Re → Prop} : kLenSet (.lst xs) P = ∃ ns : List Str, xs = ns.map D.str ∧ ns.length ≤ 4000 ∧ P (.val (.int (uq ns).length)) := propext Iff.rfl

/-! sorted(x, reverse=True) -/
def rSrtR (K : PySem.W.Frag) : List V → List V → Hp → VK → Prop := fun vs zs H Q => ∃ (a : Addr) (us : List V) (xs : List D), vs = [V.ref a] ∧ zs = [.bl true] ∧ SqL K H a us ∧ us.length = xs.length ∧ DpAll K H us (xs.map toPy) ∧ srtOk xs ∧ ∀ p, H p = none → Q (.ref p) (upd H p (.lst (srtV true us xs)))
theorem cr_srtR (hu : X.A.units + 64 < cLine) : CallRK X (.builtin "sorted") [Str.ofString "reverse"] (rSrtR X.K) := by
  intro pins s σ H vs zs us ws Q I r rz h
  obtain ⟨a, ys, xs, rfl, rfl, hs, hl, hd, ⟨h1, h2, _, h4⟩, q⟩ := h
  obtain ⟨its, rv, hL, hz⟩ := I.list hs
  rw [Vals.ref1 r]
  obtain ⟨w1, rfl, e1⟩ := vals1 rz
  obtain rfl : w1 = Value.bool true := e1
  have e := zip_toPy (us := ys) hl
  have hlz : (ys.zip xs).length = ys.length := by rw [List.length_zip, hl, Nat.min_self]
  refine PySem.W.sorted_rev_data (b := true) (enc := fun b : V × D => toPy b.2) (bs := ys.zip xs) (R := fun v b => RelV b.1 v) hL.isList (each_zip rv hl) (each_reads I rv hl hd) (by rw [e]; exact h1) (by rw [e]; exact h2) (by rw [hlz]; exact hz) (fun b hb => ?_) fun out ho eo => ?_
  · have hm : b.2 ∈ xs := by
      rw [← zip_snd hl]
      exact List.mem_map_of_mem hb
    have := h4 b.2 hm
    show X.A.units + 2 + (toPy b.2).depth < cLine
    omega
  · obtain ⟨ep, he'⟩ := PyProof.Rows.sortedAll_at s.heap its out.toArray
    have rv2 := each_vals eo
    have hlen : (srtV true ys xs).length ≤ sizeLine := by
      have := rv2.length
      unfold srtV
      rw [this, ho, hlz]; exact hz
    refine ⟨.ref _, upd H (s.heap.objs.size + 1) (.lst (srtV true ys xs)), I.laid (t' := s.toks) (fun _ _ => PyProof.Rows.sortedAll_old) (Nat.le_succ _) ⟨hlen, out, ep, rv2, he'⟩, rfl, q _ (I.hok.fresh (Nat.le_succ _))⟩
def kSrtR (d : D) (P : Re → Prop) : Prop := match d with
  | .lst xs => srtOk xs ∧ P (.new (.lst (srtD true xs)))
  | _ => False
def fSrtR (fa : WE) : WE := fun ss G => fa ss fun r s => vw r s fun d => kSrtR d fun r => G r s
variable {kp kp2 kp3 : Pos}
theorem de_srtR {kx : Nat} (hu : X.A.units + 64 < cLine) (hm : X.mg "sorted" = none) (ha : DE X a fa) (hg : Gl X "sorted" := by rfl)
    (na : starEach [a] X.env = [(false, eval a X.env)] := by rfl) : DE X (.Call (.Name "sorted" p) [a] [⟨some "reverse", .Constant (.bool true) kx kp2, kp⟩] pos) (fSrtR fa) := by
  obtain ⟨t, pa, hf⟩ := ha
  refine ⟨_, pe_callBK (cr_srtR hu) hg hm bt_sorted (pa_cons pa pa_nil na) (pk_cons pe_bl pk_nil) (he := by rw [na]; rfl) (hpl := by rw [na]; rfl) (hks := by rfl), fun B R w σ H ss G Q o hw hq => hf B R w σ H ss _ _ o hw fun v H1 r s1 w1 o1 r1 e1 h1 => ?_⟩
  obtain ⟨d, rd, hk⟩ := vw_ok o1 r1 h1
  unfold kSrtR at hk
  split at hk
  · obtain ⟨hs, hp⟩ := hk
    obtain ⟨l, vs, rfl, h1, h2⟩ := rd
    refine ⟨l, vs, _, rfl, rfl, .inl h1, h2.length, by rw [← toPyL_map]; exact repL_dpP o1.le _ _ h2 (by rw [plL_all]; exact hs.2.2.1), hs, fun p hp' => ?_⟩
    obtain ⟨o2, r2⟩ := new_ok (c := .lst (srtD true _)) o1 hp' ⟨_, upd_same, repL_srt true h2⟩
    exact hq _ _ (.new _) s1 w1 o2 r2 e1 hp
  · exact hk.elim
theorem x_srtR {xs : List D} {P : Re → Prop} : kSrtR (.lst xs) P = (srtOk xs ∧ P (.new (.lst (srtD true xs)))) := propext Iff.rfl

/-! o.remove(text) -/
theorem first_atS : ∀ {ns : List Str} {k : Str}, k ∈ ns → ∃ j, j < ns.length ∧ ns[j]? = some k ∧ (∀ i, i < j → ns[i]? ≠ some k) ∧ ns.eraseIdx j = ns.erase k
  | [], k, h => by cases h
  | x :: l, k, h => by
    rcases Decidable.em (x = k) with q | q
    · exact ⟨0, by simp, by simp [q], fun i hi => by omega, by simp [q]⟩
    · obtain ⟨j, u1, u2, u3, u4⟩ := first_atS ((List.mem_cons.mp h).resolve_left fun z => q z.symm)
      refine ⟨j + 1, by simpa using u1, by simpa using u2, fun i hi => ?_, ?_⟩
      · rcases i with _ | i
        · simpa using q
        · simpa using u3 i (by omega)
      · have : (x :: l).erase k = x :: l.erase k := List.erase_cons_tail (by simpa using q)
        rw [this, ← u4]; rfl
theorem map_erIdx {α β : Type} (f : α → β) : ∀ (ns : List α) (j : Nat), (ns.map f).eraseIdx j = (ns.eraseIdx j).map f
  | [], _ => rfl
  | _ :: _, 0 => rfl
  | n :: r, j + 1 => congrArg (f n :: ·) (map_erIdx f r j)
def rRemT : V → List V → Hp → VK → Prop := fun x xs H Q => ∃ (l : Addr) (ns : List Str) (k : Str), x = .ref l ∧ xs = [.str k] ∧ H l = some (.lst (ns.map V.str)) ∧ k ∈ ns ∧ Q .non (upd H l (.lst ((ns.erase k).map V.str)))
theorem mt_removeT : MtM X "list.remove" rRemT := by
  intro pins s σ H x xs v us Q I rx rxs h
  obtain ⟨l, ns, k, rfl, rfl, hH, hk, q⟩ := h
  cases rx
  obtain ⟨u, rfl, ru⟩ := rxs.one
  obtain ⟨t, rfl⟩ := ru
  obtain ⟨z, its, n, r, hl, e⟩ := I.lstM hH
  have hi : PyProof.Rows.StrsAre its ns := strsAre_of r
  rw [List.length_map] at hl z
  obtain ⟨j, j1, hj, hno, he⟩ := first_atS hk
  have hjl : j < its.toArray.size := by rw [List.size_toArray]; omega
  have at1 : ∀ (m : Nat) (hm : m < its.length) (y : Str), ns[m]? = some y → ∃ tm, its[m] = .str y tm := fun m hm y hy => by
    obtain ⟨u, hu, ⟨tm, ru⟩⟩ := r.get (i := m) (x := .str y) (by rw [List.getElem?_map, hy]; rfl)
    rw [List.getElem?_eq_getElem hm] at hu
    exact ⟨tm, by rw [Option.some.inj hu, ru]⟩
  refine call_meets PySem.F.slot_list_remove ⟨_, e, rfl⟩ PySem.F.entry_list_remove (PySem.F.args_list_remove_2 _ _)
    (MeetsSeq.list_remove l its.toArray n (.str k t) (PyProof.Rows.isStrOf k) (fun y hy => PyProof.Rows.eq_isStrOf k t hi y (by simpa using hy)) j hjl ?_ ?_ (by rw [List.size_toArray]; omega)) ⟨e, ?_⟩
  · obtain ⟨tj, hjt⟩ := at1 j (by omega) k hj
    have e1 : its.toArray[j] = .str k tj := by simpa using hjt
    rw [e1]
    exact beq_self_eq_true k
  · intro m hm hmj
    have hmn : m < ns.length := by omega
    obtain ⟨tm, hmt⟩ := at1 m (by omega) _ (List.getElem?_eq_getElem hmn)
    have e1 : its.toArray[m] = .str ns[m] tm := by simpa using hmt
    rw [e1]
    refine beq_eq_false_iff_ne.mpr fun e2 => hno m hmj ?_
    rw [List.getElem?_eq_getElem hmn, e2]
  · have rr := r.eraseIdx j
    rw [map_erIdx, he] at rr
    refine ⟨.non, _, I.lset (its' := its.eraseIdx j) (t' := s.toks) hH e ?_ rr ?_, rfl, q⟩
    · show its.toArray.eraseIdxIfInBounds j = (its.eraseIdx j).toArray
      rw [List.eraseIdxIfInBounds_toArray]
    · rw [List.length_map]
      exact Nat.le_trans List.length_erase_le z
def remC (c : C) (b : D) (k : C → D → Prop) : Prop := match c with
  | .lst xs => ∃ (ns : List Str) (x : Str), xs = ns.map D.str ∧ b = .str x ∧ x ∈ ns ∧ k (.lst ((ns.erase x).map D.str)) .non
  | _ => False
def fRem (fo fe : WE) : WE := fun ss G => fo ss fun ro s => isLst ro s ∧ fe s fun re s => fz re s fun b s => onC ro s (fun c k => remC c b k) fun d s => G (.val d) s
theorem de_remove (ho : DE X o fo) (he : DE X e fe) (m : M1 X o "remove" apos e cpos := by exact ⟨rfl, rfl, rfl, rfl⟩) (hs : starEach [e] X.env = [(false, eval e X.env)] := by rfl) : DE X (.Call (.Attribute o "remove" apos) [e] [] cpos) (fRem fo fe) := by
  obtain ⟨t1, p1, h1⟩ := ho
  obtain ⟨t2, p2, h2⟩ := he
  refine ⟨_, pe_bm PySem.F.plainAttrs_list PySem.F.slot_list_remove PySem.F.type_list_remove mt_removeT p1 (pa_cons p2 pa_nil hs) m.base m.few m.line hs rfl, fun B R w σ H ss G Q ok hw hq => h1 B R w σ H ss _ _ ok hw fun x H1 ro s1 w1 o1 r1 e1 ⟨hl, g1⟩ => ⟨ty_lst o1 r1 hl, ?_⟩⟩
  obtain ⟨B', R', o1', hB, hR, back⟩ := o1.hold r1
  refine h2 B' R' w1 σ H1 s1 _ _ o1' g1 fun y H2 re s2 w2 o2 r2 e2 g2 => ?_
  obtain ⟨b, s3, w3, o3, e3, rb, g3⟩ := fz_ok o2 r2 g2
  obtain ⟨o3', r1'⟩ := back w3 H2 s3 o3 (e2.trans e3)
  obtain ⟨a, c, st, rfl, hc, hst, hk⟩ := onC_ok o3' r1' g3
  cases c with
  | dic _ => exact hk.elim
  | lst xs =>
    obtain ⟨ns, k, rfl, rfl, hm, hk⟩ := hk
    obtain ⟨vs, ev, rv⟩ := hc
    obtain rfl := RepL.strs rv
    obtain rfl : y = .str k := rb
    exact ⟨a, ns, k, rfl, rfl, ev, hm, hq _ _ (.val .non) (st _) w3 (hst (.lst ((ns.erase k).map D.str)) _ ⟨_, upd_same, RepL.of_strs _⟩) rfl (e1.trans (e2.trans e3)) hk⟩
/-! o.pop() of a list -/
def popL (c : C) (k : C → D → Prop) : Prop := match c with
  | .lst xs => ∃ d, xs[xs.length - 1]? = some d ∧ k (.lst xs.dropLast) d
  | _ => False
def fPop0 (fo : WE) : WE := fun ss G => fo ss fun ro s => isLst ro s ∧ onC ro s (fun c k => popL c k) fun d s => G (.val d) s
theorem RepL.dropLast {w : Wd} : ∀ {ds : List D} {vs : List V}, RepL w ds vs → RepL w ds.dropLast vs.dropLast := fun {ds vs} h => by
  rw [List.dropLast_eq_take, List.dropLast_eq_take, h.length]
  exact h.take _
theorem de_pop0 (ho : DE X o fo) (hbase : attributeBase o "pop" X.env (eval o X.env) = eval o X.env := by rfl) (hline : (apos.endLine == cpos.line) = true := by rfl) : DE X (.Call (.Attribute o "pop" apos) [] [] cpos) (fPop0 fo) := by
  obtain ⟨t1, p1, h1⟩ := ho
  refine ⟨_, pe_bm0 PySem.F.plainAttrs_list PySem.F.slot_list_pop PySem.F.type_list_pop mt_pop p1 hbase hline, fun B R w σ H ss G Q ok hw hq => h1 B R w σ H ss _ _ ok hw fun x H1 ro s1 w1 o1 r1 e1 ⟨hl, g1⟩ => ⟨ty_lst o1 r1 hl, ?_⟩⟩
  obtain ⟨a, c, st, rfl, hc, hst, hk⟩ := onC_ok o1 r1 g1
  cases c with
  | dic _ => exact hk.elim
  | lst xs =>
    obtain ⟨d, hd, hk⟩ := hk
    obtain ⟨vs, ev, rv⟩ := hc
    obtain ⟨v, hv, rd⟩ := rv.get hd
    rw [← rv.length] at hv
    exact ⟨a, vs, v, rfl, rfl, ev, hv, hq _ _ (.val d) (st _) w1 (hst (.lst xs.dropLast) _ ⟨_, upd_same, rv.dropLast⟩) rd e1 hk⟩
theorem x_rem {xs : List D} {b : D} {kc : C → D → Prop} : remC (.lst xs) b kc = ∃ (ns : List Str) (x : Str), xs = ns.map D.str ∧ b = .str x ∧ x ∈ ns ∧ kc (.lst ((ns.erase x).map D.str)) .non := propext Iff.rfl
theorem x_popL {xs : List D} {kc : C → D → Prop} : popL (.lst xs) kc = ∃ d, xs[xs.length - 1]? = some d ∧ kc (.lst xs.dropLast) d := propext Iff.rfl
end
end Vl
set_option maxHeartbeats 2000000
namespace Vl
open PySem PySem.Spec L2
open PyProof.Rows hiding St

/-! ### dicts written out; dict(d); sorted(d.items()) -/
abbrev WP := SS → (List (Key × D) → SS → Prop) → Prop
section
variable {X : Cx} {a e o : Expr} {ta : TE} {p p2 q pos apos cpos : Pos} {fo fe fa : WE} {fr : WR}
def DP (X : Cx) (pos : Pos) (ks : List (Option Expr)) (es : List Expr) (f : WP) : Prop := ∃ trs, PPs X pos ks es trs ∧ ∀ (B : Hp) (R : Addr → Prop) (w : Wd) (σ : St) (H : Hp) (ss : SS) (G : List (Key × D) → SS → Prop) (Q : List (V × V) → Hp → Prop), Ok B R w σ H ss → f ss G →
  (∀ kws H' kvs ss' w', Ok B R w' σ H' ss' → RepK w' kvs kws → Ext w w' → G kvs ss' → Q (kws.map fun kv => (kV kv.1, kv.2)) H') → tPairs trs σ H Q
def fPNil : WP := fun ss G => G [] ss
def fPCons (fk fv : WV) (fr : WP) : WP := fun ss G => fk ss fun k s => fv s fun v s => fr s fun ps s => ∃ key, keyOf k = some key ∧ G ((key, v) :: ps) s
theorem dp_nil : DP X pos [] [] fPNil := ⟨_, pps_nil, fun B R w σ H ss G Q o hw hq => hq [] H [] ss w o rfl (.refl w) hw⟩
theorem dp_cons {k v : Expr} {ks : List (Option Expr)} {vs : List Expr} {fk fv : WV} {fr : WP} (h1 : DV X k fk) (h2 : DV X v fv) (h3 : DP X pos ks vs fr) : DP X pos (some k :: ks) (v :: vs) (fPCons fk fv fr) := by
  obtain ⟨t1, p1, f1⟩ := h1
  obtain ⟨t2, p2, f2⟩ := h2
  obtain ⟨t3, p3, f3⟩ := h3
  refine ⟨_, pps_cons p1 p2 p3, fun B R w σ H ss G Q o hw hq => f1 B R w σ H ss _ _ o hw fun x H1 d1 s1 w1 o1 r1 e1 g1 => f2 B R w1 σ H1 s1 _ _ o1 g1 fun y H2 d2 s2 w2 o2 r2 e2 g2 => f3 B R w2 σ H2 s2 _ _ o2 g2 fun kws H3 kvs s3 w3 o3 r3 e3 ⟨key, hk, g3⟩ => ?_⟩
  obtain rfl := keyOf_rep hk (r1.ext (e2.trans e3))
  exact hq ((key, y) :: kws) H3 ((key, d2) :: kvs) s3 w3 o3 ⟨y, kws, rfl, r2.ext e3, r3⟩ (e1.trans (e2.trans e3)) g3
def fDisp (fp : WP) : WE := fun ss G => fp ss fun kvs s => kvs.length ≤ 15 ∧ G (.new (.dic (mergeD [] kvs))) s
theorem de_disp {ks : List (Option Expr)} {vs : List Expr} {fp : WP} (h : DP X pos ks vs fp) (hall : ks.all (·.isSome) = true := by rfl) (hl : ks.length = vs.length := by rfl) (h0 : ks ≠ [] := by exact fun z => by cases z) (h15 : ks.length ≤ 15 := by decide) : DE X (.Dict ks vs pos) (fDisp fp) := by
  obtain ⟨trs, hp, hf⟩ := h
  refine ⟨_, pe_disp hp hall hl h0 h15, fun B R w σ H ss G Q o hw hq => ?_⟩
  intro p np
  obtain ⟨o1, r1⟩ := new_ok (c := .dic []) o np ⟨[], upd_same, rfl⟩
  obtain ⟨B', R', o1', hB, hR, back⟩ := o1.hold r1
  refine hf B' R' w σ _ ss _ _ o1' hw fun kws H2 kvs s2 w2 o2 rk e2 ⟨few, hk⟩ => ?_
  obtain ⟨o2', r2⟩ := back w2 H2 s2 o2 e2
  have r2' := r2
  obtain ⟨p', ep, ⟨vs0, hv, rv⟩, n1, n2, n3, n4, n5⟩ := r2
  cases ep
  obtain rfl : vs0 = [] := rv
  obtain ⟨a', c, st, ea, hc, hst, hk2⟩ := onC_ok o2' r2' (f := fun _ k => ∀ c', k c' .non) (k := fun _ s => s = s2) (fun _ => rfl)
  cases ea
  have es : ∀ c', st c' = s2 := hk2
  have hx : Cel w2 (upd H2 p (.dK (mergeK [] kws))) p (.dic (mergeD [] kvs)) := ⟨_, upd_same, RepK.merge rk (ds := []) (vs := []) rfl⟩
  refine ⟨hv, kws, rfl, by rw [rk.length]; exact few, ?_⟩
  refine hq _ _ (.new (.dic (mergeD [] kvs))) s2 w2 (es _ ▸ hst (.dic (mergeD [] kvs)) _ hx) ⟨p, rfl, hx, n1, n2, n3, n4, n5⟩ e2 hk
/-! dict(d) -/
def kDictD : KC := k1 fun d P => match d with
  | .dic kvs => P (.new (.dic kvs))
  | _ => False
theorem cx_dictD : CallX (fun xs H Q => ∃ (a : Addr) (kvs : List (Key × V)), xs = [.ref a] ∧ Rd H a (.dK kvs) ∧ ∀ p, H p = none → Q (.ref p) (upd H p (.dK kvs))) kDictD := callX1 fun w H d v P Q le rd hk hq => by
  split at hk
  · obtain ⟨l, vs, rfl, h1, h2⟩ := rd
    exact ⟨l, vs, rfl, h1, fun p hn => hq.new p _ (.dic _) hn ⟨_, L2.upd_same, h2⟩ hk⟩
  · exact hk.elim
theorem x_dictD {kvs : List (Key × D)} {P : Re → Prop} : kDictD [.dic kvs] P = P (.new (.dic kvs)) := propext Iff.rfl
theorem bt_dict' : bootBuiltins "dict" = some (.type "dict") := by decide +kernel
theorem de_dictD (hm : X.mg "dict" = none) (hg : Gl X "dict" := by rfl) (ha : DR X [a] fr) (he : starEach [a] X.env = [(false, eval a X.env)] := by rfl) : DE X (.Call (.Name "dict" p) [a] [] pos) (fBlt kDictD fr) :=
  de_bty call_dictD cx_dictD hm bt_dict' hg ha (by decide) (by decide) he rfl
end
end Vl
set_option maxHeartbeats 2000000
namespace Vl
open PySem PySem.Spec L2
open PyProof.Rows hiding St

/-! ### sorted(d.items()) -/
section
variable {X : Cx} {e : Expr} {te : TE} {fe : WE} {p p2 apos cpos pos : Pos}
/-- pairs newly laid are told of -/
theorem tup_laid {pins : List (Addr × Obj)} {σ : L2.St} {H : Hp} {s : Shared} {h' : Heap} {tk : Nat} {kvs : List (Key × V)} {ws : List (Key × Value)} {as : List Addr} (I : Inv X pins σ H s) (kv : KV kvs ws)
    (hk : ∀ b o, s.heap.get? b = some o → h'.get? b = some o) (hl : as.length = ws.length) (hG : PySem.W.KdxG (mixKind X.prog X.w) ws s.heap.objs.size h' as) :
    ∃ H' : Hp, (∀ b o, H b = some o → H' b = some o) ∧ (∀ t ∈ as, H t = none) ∧ as.Nodup ∧ Paired (fun (t : Addr) (q : Key × V) => H' t = some (.tup [kV q.1, q.2])) as kvs ∧ Inv X pins σ H' { s with heap := h', toks := tk } := by
  have hlen : as.length = kvs.length := hl.trans (Paired.length kv).symm
  have hnd : as.Nodup := hG.rise.imp fun {a b} (z : a < b) => Nat.ne_of_lt z
  have hnew : ∀ t ∈ as, H t = none := fun t ht => I.hok.fresh (Nat.le_of_lt (hG.above t ht))
  have hat := LiI.putT_at as kvs H hlen hnd
  have hoff : ∀ b, b ∉ as → LiI.putT H as kvs b = H b := fun b z => LiI.putT_off as kvs H z
  have hkp : ∀ b u, H b = some u → LiI.putT H as kvs b = some u := fun b u z => (hoff b fun m => by rw [hnew b m] at z; cases z).trans z
  have hlow : ∀ b o, s.heap.get? b = some o → b ∉ as := fun b o z m => Nat.lt_irrefl _ (Nat.lt_trans (hG.above b m) (Heap.lt_size z))
  refine ⟨LiI.putT H as kvs, hkp, hnew, hnd, hat, ?_⟩
  have J : Inv X pins σ (LiI.putT H as kvs) { s with heap := h', gens := s.gens, drawn := s.drawn, toks := tk } := by
    refine I.call (ch := []) ⟨fun b u q _ _ _ => hk b u q, fun b u q _ _ _ => ⟨_, hk b u q⟩, fun b u q n _ => (hoff b (hlow b u q)).trans n, fun b u q _ => ⟨u, hk b u q⟩, fun b _ q => hkp b _ q, fun b _ _ q => hkp b _ q, fun b _ q => ⟨#[], ?_⟩⟩ (fun b u q => ?_) I.bare (fun _ z => nomatch z)
    · exact (hkp b _ q).trans (by rw [Array.append_empty])
    · by_cases hb : b ∈ as
      · obtain ⟨j, pk, e1, e2, e3⟩ := LiI.paired_ix hat hb
        rw [e3] at q
        obtain ⟨key, k, x, f1, f2, f3⟩ := hG.pairs j b e1
        obtain ⟨z, ez, rz⟩ := kv_at kv e2
        rw [f1] at ez
        have ez : (k, x) = z := Option.some.inj ez
        subst ez
        have ek : pk.1 = k := rz.1
        obtain rfl := Option.some.inj q
        refine ⟨by show 2 ≤ sizeLine; rw [szl]; decide, [key, x], .cons ?_ (.cons rz.2 .nil), ⟨_, f3, rfl, _, rfl⟩⟩
        rw [ek]
        exact (mix_rel f2).1
      · rw [hoff b hb] at q
        exact ObjOk.stay (I.hok b u q) (fun c v _ => hk c v) (fun c hc => hkp c _ hc) fun c _ hc => hkp c _ hc
  exact J
def itL (kvs : List (Key × V)) (ds : List D) : List D := List.zipWith (fun kv d => D.tup [kD kv.1, d]) kvs ds
def tSrtIt (K : PySem.W.Frag) (te : TE) : TE := fun σ H Q => te σ H fun x H1 => ∃ (d : Addr) (kvs : List (Key × V)) (ds : List D), x = .ref d ∧ Rd H1 d (.dK kvs) ∧ ds.length = kvs.length ∧ DpAll K H1 (kvs.map (·.2)) (ds.map toPy) ∧ srtOk (itL kvs ds) ∧
  ∀ (H' : Hp) (p : Addr) (ts : List Addr), (∀ b o, H1 b = some o → H' b = some o) → (∀ t ∈ ts, H1 t = none) → ts.Nodup → Paired (fun (t : Addr) (q : Key × V) => H' t = some (.tup [kV q.1, q.2])) ts kvs → H' p = none → Q (.ref p) (upd H' p (.lst (srtV false (ts.map V.ref) (itL kvs ds))))
theorem len_itL {kvs : List (Key × V)} {ds : List D} (h : ds.length = kvs.length) : (itL kvs ds).length = kvs.length := by unfold itL; rw [List.length_zipWith, h, Nat.min_self]
theorem dpAll_get {K : PySem.W.Frag} {H : Hp} : ∀ {vs : List V} {ds : List PyData}, DpAll K H vs ds → ∀ {i : Nat} {v : V} {d : PyData}, vs[i]? = some v → ds[i]? = some d → Dp K H v d
  | _, _, .nil, _, _, _, h, _ => by simp at h
  | _, _, .cons a t, 0, _, _, h, h' => by
    obtain rfl := Option.some.inj h
    obtain rfl := Option.some.inj h'
    exact a
  | _, _, .cons a t, i + 1, _, _, h, h' => dpAll_get t (i := i) h h'
theorem pe_srtIt (hc : X.calm = true) (hu : X.A.units + 64 < cLine) (he : PE X e te) (hg : Gl X "sorted") (hm : X.mg "sorted" = none) (hbase : attributeBase e "items" X.env (eval e X.env) = eval e X.env := by rfl) (hline : (apos.endLine == cpos.line) = true := by rfl) :
    PE X (.Call (.Name "sorted" p) [.Call (.Attribute e "items" apos) [] [] cpos] [] pos) (tSrtIt X.K te) := by
  refine ⟨fun pins s σ H Q I h => ?_⟩
  refine Call_ (ld_blt I hg hm bt_sorted ?_)
  refine PyProof.Rows.callWith_builtin1 (PyProof.Rows.args_cons ?_ rfl) rfl rfl
  refine wpAny_Call_method (T := "dict") (id := "dict.items") hbase rfl hline PySem.F.plainAttrs_dict PySem.F.slot_dict_items PySem.F.type_dict_items (thn (he.run pins s σ H _ I h) fun u s1 ⟨x, H1, I1, rx, d, kvs, ds, ex, hd, hld, hdp, hso, q⟩ => ?_)
  subst ex
  obtain rfl : u = Value.ref d := rx
  obtain ⟨hz, lo, ws, kv, hdo⟩ := dk_rd I1.hok hd
  obtain ⟨ep, hat⟩ := hdo.dictAt
  have lk : kvs.length = ws.length := Paired.length kv
  have I2 : Inv X pins σ H1 { s1 with heap := s1.heap.push { cls := .type "dict_items", data := .fields #[.ref d] } } := I1.kept (t' := s1.toks) fun b ob q => Heap.get?_push_of_some _ q
  refine ⟨hdo.typeIs, hdo.mapOf.noDict, ?_⟩
  show wpAny _ _ (callWith cpos (.builtin "dict.items") [.ref d] [] []) _ X.xe s1
  refine method_meetsIn PySem.F.slot_dict_items PySem.F.entry_dict_items rfl (PySem.evalArgs_none ⟨rfl, hdo.typeIs, PySem.F.args_dict_items_1 _, _, meets_dict_items (mixKind X.prog X.w) d lo, ⟨ws, hdo⟩, ?_⟩)
  refine PyProof.Rows.args_nil ?_
  refine sorted_gath2 (F := fun out s2 => ∃ (h' : Heap) (tk : Nat) (as : List Addr), out = as.map Value.ref ∧ s2 = { s1 with heap := h', toks := tk } ∧ (∀ b o, (s1.heap.push { cls := .type "dict_items", data := .fields #[.ref d] }).get? b = some o → h'.get? b = some o) ∧ as.length = ws.length ∧ PySem.W.KdxG (mixKind X.prog X.w) ws (s1.heap.push { cls := .type "dict_items", data := .fields #[.ref d] }).objs.size h' as)
    (fun {Z} hZ => PySem.W.kdx_collect (A := X.A.in1) (knd := mixKind X.prog X.w) (kvs := ws) (ep := ep) (I1.ok.hd hc) ⟨_, Heap.get?_push_size _ rfl, rfl, rfl⟩ (hat.push _) (by omega) fun h' tk as k1 k2 k3 => hZ _ _ ⟨h', tk, as, rfl, rfl, k1, k2, k3⟩) ?_ hu
  rintro out s2 ⟨h', tk, as, rfl, rfl, hk, hl, hG⟩
  obtain ⟨H', q1, q2, q3, q4, J⟩ := tup_laid (tk := tk) I2 kv hk hl hG
  have li := len_itL hld
  have lb : as.length = (itL kvs ds).length := by omega
  have lz : ((as.map V.ref).zip (itL kvs ds)).length = as.length := by rw [List.length_zip, List.length_map, ← lb, Nat.min_self]
  have key : ∀ (i : Nat) (v : Value) (b : V × D), (as.map Value.ref)[i]? = some v → ((as.map V.ref).zip (itL kvs ds))[i]? = some b → RelV b.1 v ∧ ∃ bs, Reads h' v (toPy b.2) bs := fun i v b e1 e2 => by
    rw [List.getElem?_map] at e1
    obtain ⟨t, et, rfl⟩ := Option.map_eq_some_iff.mp e1
    obtain ⟨ky, k, x, f1, f2, f3⟩ := hG.pairs i t et
    obtain ⟨kv', ekv, rkv⟩ : ∃ kv', kvs[i]? = some kv' ∧ (kv'.1 = k ∧ RelV kv'.2 x) := by
      have hi : i < kvs.length := by
        have := (List.getElem?_eq_some_iff.mp et).1
        omega
      obtain ⟨z, ez, rz⟩ := kv_at kv (List.getElem?_eq_getElem hi)
      rw [f1] at ez
      obtain rfl := Option.some.inj ez
      exact ⟨_, List.getElem?_eq_getElem hi, rz⟩
    obtain ⟨dd, edd⟩ : ∃ dd, ds[i]? = some dd := ⟨_, List.getElem?_eq_getElem (by rw [hld]; exact (List.getElem?_eq_some_iff.mp ekv).1)⟩
    have eb : ((as.map V.ref).zip (itL kvs ds))[i]? = some (.ref t, .tup [kD kv'.1, dd]) := by
      rw [List.getElem?_zip_eq_some]
      refine ⟨by rw [List.getElem?_map, et]; rfl, ?_⟩
      unfold itL
      rw [List.getElem?_zipWith, ekv, edd]
    rw [eb] at e2
    obtain rfl := Option.some.inj e2
    refine ⟨rfl, ?_⟩
    have dp := dpAll_get hdp (i := i) (v := kv'.2) (d := toPy dd) (by rw [List.getElem?_map, ekv]; rfl) (by rw [List.getElem?_map, edd]; rfl)
    obtain ⟨bs, rr⟩ := Dp.reads I2 _ _ _ dp rkv.2
    obtain ⟨m1, m2⟩ := mix_rel f2
    refine ⟨[] ++ (bs ++ []), ?_⟩
    rw [rkv.1]
    exact Reads.tuple f3 rfl rfl (.cons (m2 h') (.cons (PyProof.Rows.Reads.keeps hk rr) .nil))
  refine ⟨(as.map V.ref).zip (itL kvs ds), ⟨hk, rfl, rfl, each_at (by rw [lz, List.length_map]) fun i v b e1 e2 => (key i v b e1 e2).1, each_at (by rw [lz, List.length_map]) fun i v b e1 e2 => (key i v b e1 e2).2⟩, ?_, by rw [lz, hl, ← lk]; exact hz, fun p s2 its c e3 hp k3 g3 o3 hg3 => ?_⟩
  · rw [zip_snd (by rw [List.length_map]; exact lb)]; exact hso
  · refine srt_end J e3 (by rw [List.length_mergeSort, lz, hl, ← lk]; exact hz) hp k3 g3 o3 hg3 fun p hn => ?_
    have := q H' p as q1 q2 q3 q4 hn
    unfold srtV at this
    exact this

def itD (kv : Key × D) : D := .tup [kD kv.1, kv.2]
theorem itL_it {w : Wd} : ∀ {kvs : List (Key × D)} {vs : List (Key × V)}, RepK w kvs vs → itL vs (kvs.map (·.2)) = kvs.map itD
  | [], _, h => by subst h; rfl
  | (k, d) :: kvs, _, ⟨v, us, e, h1, h2⟩ => by
    subst e
    show D.tup [kD k, d] :: itL us (kvs.map (·.2)) = _
    rw [itL_it h2]; rfl
theorem repK_vals {w : Wd} : ∀ {kvs : List (Key × D)} {vs : List (Key × V)}, RepK w kvs vs → RepL w (kvs.map (·.2)) (vs.map (·.2))
  | [], _, h => by subst h; rfl
  | (k, d) :: kvs, _, ⟨v, us, e, h1, h2⟩ => by subst e; exact ⟨v, _, rfl, h1, repK_vals h2⟩
theorem repL_it {w : Wd} {F : Addr → Option HO} : ∀ {kvs : List (Key × D)} {vs : List (Key × V)} {ts : List Addr}, RepK w kvs vs → Paired (fun (t : Addr) (q : Key × V) => w.F t = some (.tup [kV q.1, q.2])) ts vs → RepL w (kvs.map itD) (ts.map V.ref)
  | [], _, _, h, q => by subst h; cases q; rfl
  | (k, d) :: kvs, _, _, ⟨v, us, e, h1, h2⟩, q => by
    subst e
    cases q with
    | cons a t => exact ⟨_, _, rfl, ⟨_, _, rfl, a, ⟨_, _, rfl, rep_kD k, ⟨_, _, rfl, h1, rfl⟩⟩⟩, repL_it (F := F) h2 t⟩
theorem frz_tups {B : Hp} {R : Addr → Prop} {σ : L2.St} {H : Hp} {ss : SS} : ∀ {ts : List Addr} {vs : List (Key × V)} {w : Wd}, Ok B R w σ H ss → ts.Nodup → Paired (fun (t : Addr) (q : Key × V) => H t = some (.tup [kV q.1, q.2])) ts vs →
    (∀ t ∈ ts, w.F t = none ∧ ¬ R t ∧ t ∉ w.cs ∧ ∀ (i : Nat) (c' : C), ss.r[i]? = some (.own c') → w.os i ≠ t) → ∃ w', Ok B R w' σ H ss ∧ Ext w w' ∧ Paired (fun (t : Addr) (q : Key × V) => w'.F t = some (.tup [kV q.1, q.2])) ts vs
  | [], _, w, o, _, .nil, _ => ⟨w, o, .refl w, .nil⟩
  | t :: ts, q :: vs, w, o, nd, .cons a z, h => by
    obtain ⟨n1, n2⟩ := List.nodup_cons.mp nd
    obtain ⟨h1, h2, h3, h4⟩ := h t List.mem_cons_self
    have o1 := o.frz a h1 h2 h3 h4
    have e1 := frzF.ext (u := HO.tup [kV q.1, q.2]) h1
    obtain ⟨w', o2, e2, p2⟩ := frz_tups o1 n2 z fun b hb => by
      obtain ⟨g1, g2, g3, g4⟩ := h b (List.mem_cons_of_mem _ hb)
      refine ⟨?_, g2, g3, g4⟩
      show upd w.F t _ b = none
      rw [upd_ne (fun e : b = t => n1 (e ▸ hb))]; exact g1
    exact ⟨w', o2, e1.trans e2, .cons (e2.F _ _ upd_same) p2⟩
def kSrtIt (d : D) (P : Re → Prop) : Prop := match d with
  | .dic kvs => srtOk (kvs.map itD) ∧ P (.new (.lst (srtD false (kvs.map itD))))
  | _ => False
def fSrtIt (fa : WE) : WE := fun ss G => fa ss fun r s => vw r s fun d => kSrtIt d fun r => G r s
theorem plD_it {kv : Key × D} (h : plD (itD kv) = true) : plD kv.2 = true := by
  have h : (plD (kD kv.1) && (plD kv.2 && true)) = true := h
  rw [Bool.and_eq_true, Bool.and_eq_true] at h
  exact h.2.1
theorem de_srtIt (hc : X.calm = true) (hu : X.A.units + 64 < cLine) (hm : X.mg "sorted" = none) (he : DE X e fe) (hg : Gl X "sorted" := by rfl) (hbase : attributeBase e "items" X.env (eval e X.env) = eval e X.env := by rfl) (hline : (apos.endLine == cpos.line) = true := by rfl) :
    DE X (.Call (.Name "sorted" p) [.Call (.Attribute e "items" apos) [] [] cpos] [] pos) (fSrtIt fe) := by
  obtain ⟨t, pa, hf⟩ := he
  refine ⟨_, pe_srtIt hc hu pa hg hm hbase hline, fun B R w σ H ss G Q o hw hq => hf B R w σ H ss _ _ o hw fun v H1 r s1 w1 o1 r1 e1 h1 => ?_⟩
  obtain ⟨d, rd, hk⟩ := vw_ok o1 r1 h1
  unfold kSrtIt at hk
  split at hk
  · rename_i kvs
    obtain ⟨hs, hp⟩ := hk
    obtain ⟨l, vs, rfl, g1, g2⟩ := rd
    have rv := repK_vals g2
    have lv := g2.length
    refine ⟨l, vs, kvs.map (·.2), rfl, g1, by rw [List.length_map, lv], ?_, by rw [itL_it g2]; exact hs, fun H' p ts k1 k2 k3 k4 k5 => ?_⟩
    · rw [← toPyL_map]
      refine repL_dpP o1.le _ _ rv ?_
      rw [plL_all, List.all_map]
      have h3 := hs.2.2.1
      rw [List.all_map] at h3
      exact List.all_eq_true.mpr fun kv hkv => plD_it (List.all_eq_true.mp h3 kv hkv)
    · have o2 := o1.grow k1
      obtain ⟨w', o3, e3, p3⟩ := frz_tups o2 k3 k4 fun t ht => by
        obtain ⟨f1, f2, f3, f4, f5⟩ := o1.fresh (k2 t ht)
        exact ⟨f1, f3, f4, f5⟩
      rw [itL_it g2]
      obtain ⟨o4, r4⟩ := new_ok (c := .lst (srtD false (kvs.map itD))) o3 k5 ⟨_, upd_same, repL_srt false (repL_it (F := w'.F) (g2.ext e3) p3)⟩
      exact hq _ _ (.new _) s1 w' o4 r4 (e1.trans e3) hp
  · exact hk.elim
theorem x_srtIt {kvs : List (Key × D)} {P : Re → Prop} : kSrtIt (.dic kvs) P = (srtOk (kvs.map itD) ∧ P (.new (.lst (srtD false (kvs.map itD))))) := propext Iff.rfl
end
end Vl
set_option maxHeartbeats 1000000
namespace Vl
open PySem PySem.Spec L2
open PyProof.Rows hiding St

/-! ### defs whose last parameter has the default None -/
structure FunN (K : PySem.W.Frag) (x : Str) (st : Stmt) (f : Addr) (fd : FuncData) : Prop where
  ex : ∃ (oc : Value) (od : Option Addr) (T : Addr) (oT : Obj) (nT : Nat) (kV doc pm : Value) (an : Option Addr) (cdv ct : Value) (osl : Array (Option Value)),
    fd = PySem.W.fnOf x x (defArgs st) (defBody st) (defScope st) (.ref T) kV doc pm an cdv ct ∧ K.lookup f = some ⟨oc, od, .func fd, osl⟩ ∧ PySem.W.codeIn K cdv x = true ∧ K.lookup T = some oT ∧ oT.data = .seq #[.none] nT
  kp : PySem.W.keepIn K (.ref f) = true
theorem funN_mk {K : PySem.W.Frag} {x : Str} {st : Stmt} {f T : Addr} {oT : Obj} {nT : Nat} {oc : Value} {od an : Option Addr} {osl : Array (Option Value)} {kV doc pm cdv ct : Value} (l : K.lookup f = some ⟨oc, od, .func (PySem.W.fnOf x x (defArgs st) (defBody st) (defScope st) (.ref T) kV doc pm an cdv ct), osl⟩)
    (c : PySem.W.codeIn K cdv x = true) (k : PySem.W.keepIn K (.ref f) = true) (lT : K.lookup T = some oT) (dT : oT.data = .seq #[.none] nT) : FunN K x st f (PySem.W.fnOf x x (defArgs st) (defBody st) (defScope st) (.ref T) kV doc pm an cdv ct) :=
  ⟨⟨oc, od, T, oT, nT, kV, doc, pm, an, cdv, ct, osl, rfl, l, c, lT, dT⟩, k⟩
section
variable {P : Program} {w : World} {K : PySem.W.Frag} {mg : Str → Option Value} {base : Heap} {k : Nat} {f : Addr} {x : Str} {st : Stmt} {fd : FuncData} {N ps : List Str} {sp : Sp}
theorem fnG_okN (F : FunN K x st f fd) (S : FnScope N ps (defScope st)) (ln : ∀ vs H Q E, sp vs H Q E → vs.length = ps.length)
    (hb : ∀ (cdv : Value) (A : Around) (stk : List Env) (t : Shared) (H : Hp) (vs : List V) (Q : VK) (E : XK), RoomG k (A.deeper (envOfC x (defScope st) t.heap.objs.size f cdv)) → sp vs H Q E →
      ∃ r, PSs (cxOf CX0 P w K mg base N x (defScope st) f cdv A stk t H E).nox (defBody st) r ∧ r { nx := fun _ H' => Q .non H', rt := Q } (L2.start N vs) H) : FnG P w K mg base (k + 1) f fd ps sp := by
  obtain ⟨oc, od, T, oT, nT, kV, doc, pm, an, cdv, ct, osl, rfl, lk, hcd, _, _⟩ := F.ex
  refine ⟨ln, fun A stk t H gs us vs Q E room e0 bind rel psp => ?_⟩
  have hlen := ln _ _ _ _ psp
  have inK : K.In t.heap := e0.mod.kin.keeps fun b o e => (e0.bs b o e).1
  have nolim : t.heap.NoLimit := e0.mod.nolimit.keeps fun b o e => (e0.bs b o e).1
  have kinds : ∀ y ∈ ps.zip us, (defScope st).names.lookup y.1 = some .local ∨ ((defScope st).names.lookup y.1 = some .cell ∧ ((cellsFrom (t.heap.objs.size + 1) (defScope st).names []).lookup y.1).isSome = true) := by
    rintro ⟨n, v⟩ hy
    rcases S.par n (List.of_mem_zip hy).1 with q | q
    · exact .inl q
    · exact .inr ⟨q, PySem.W.cellsFrom_some _ _ _ (.inl q)⟩
  refine codeAny_call_function room.toRoom.depth (inK _ _ lk) rfl S.co S.gen rfl (PySem.W.codeRec_of inK hcd) (bind _ _ _ _ ?_)
  refine wpAny_newFunctionEnv_cells S.kind kinds fun env he t1 y => ?_
  subst he
  refine ⟨nolim.keeps y.toInCall.keep, codeAny_func ?_⟩
  obtain ⟨r, hr, hq⟩ := hb cdv A stk t H vs Q E (room.down _) psp
  have I : Inv (cxOf CX0 P w K mg base N x (defScope st) f cdv A stk t H E) [] (L2.start N vs) H t1 := inv_start S room.hd e0 hlen rel y
  refine wpAny_mono (hr.nox.run [] t1 (L2.start N vs) H _ I hq) (fun fl t' hs => ?_) fun _ _ z => z
  cases fl with
  | ret u =>
    obtain ⟨v, σ', H', J, rv, q⟩ := hs
    exact ⟨v, H', J.os, J.bare, J.base, J.hok, rv, q⟩
  | next =>
    obtain ⟨σ', H', J, q⟩ := hs
    exact ⟨.non, H', J.os, J.bare, J.base, J.hok, rfl, q⟩
  | brk => exact hs.choose_spec.choose_spec.2.elim
  | cont => exact hs.choose_spec.choose_spec.2.elim
end
theorem fn_okN {P : Program} {w : World} {K : PySem.W.Frag} {mg : Str → Option Value} {base : Heap} {x : Str} {st : Stmt} {f : Addr} {fd : FuncData} {N ps : List Str} {k : Nat} {c : Ct} (F : FunN K x st f fd) (S : FnScope N ps (defScope st))
    (len : ∀ ds S G, c ds S G → ds.length = ps.length) (hbody : ∃ fb : WS, (∀ (cdv : Value) (A : Around) (outer : List Env) (s : Shared) (H : Hp) (E : XK), RoomG k (A.deeper (envOfC x (defScope st) s.heap.objs.size f cdv)) → DSs (cxOf CX0 P w K mg base N x (defScope st) f cdv A outer s H E).nox (defBody st) fb) ∧
      ∀ ds S G, c ds S G → fb (enOf G) (startS N ds S)) : FnG P w K mg base (k + 1) f fd ps (specOf c) := by
  obtain ⟨fb, h1, h2⟩ := hbody
  refine fnG_okN F S (fun vs H Q E h => ?_) (fun cdv A outer s H vs Q E hr h => ?_)
  · obtain ⟨w1, ds, S1, G, p, r, hc, _⟩ := h
    rw [r.length]; exact len ds S1 G hc
  · obtain ⟨w1, ds, S1, G, p, r, hc, hQ⟩ := h
    obtain ⟨t, pt, ht⟩ := h1 cdv A outer s H E hr
    refine ⟨t, pt, ht _ _ w1 _ H _ (enOf G) _ (ok_start p r N) (h2 ds S1 G hc) ⟨fun σ' H' ss' w' o ex h => ?_, fun v σ' H' r ss' w' o rr ns ex h => ?_, fun σ' H' ss' w' o ex h => h.elim, fun σ' H' ss' w' o ex h => h.elim⟩⟩
    · exact hQ .non H' ⟨.val .non, w', σ', ss', o, rfl, trivial, ex, h⟩
    · exact hQ v H' ⟨r, w', σ', ss', o, rr, ns, ex, h⟩
structure FnN (P : Program) (w : World) (K : PySem.W.Frag) (mg : Str → Option Value) (base : Heap) (x : Str) (st : Stmt) (ps : List Str) (c : Ct) (k : Nat) : Prop where
  ex : ∃ (f : Addr) (fd : FuncData), FunN K x st f fd ∧ mg x = some (.ref f) ∧ FnG P w K mg base k f fd ps (specOf c)
/-- how a call binds -/
def BndN (x : Str) (st : Stmt) (ps ks : List Str) (n : Nat) (g : {α : Type} → α → List α → List α → List α) : Prop :=
  ∀ (T : Addr) (kV doc pm : Value) (an : Option Addr) (cdv ct : Value) (us ws : List Value), us.length = n → ws.length = ks.length →
    ∃ k, bindArgs (PySem.W.fnOf x x (defArgs st) (defBody st) (defScope st) (.ref T) kV doc pm an cdv ct) ⟨us, ks.zip ws⟩ = seqItems? (.ref T) >>= k ∧ k (some #[.none]) = pure (ps.zip (g .none us ws))
structure GRel (g : {α : Type} → α → List α → List α → List α) : Prop where
  vals : ∀ {vs us zs ws}, Vals vs us → Vals zs ws → Vals (g V.non vs zs) (g Value.none us ws)
  reps : ∀ {w ds vs es us}, RepL w ds vs → RepL w es us → RepL w (g D.non ds es) (g V.non vs us)
section
variable {X : Cx} {e : Expr} {es : List Expr} {kws : List Keyword} {fs gs : WA} {fe : WE} {c : Ct} {k j : Nat} {x : Str} {st : Stmt} {ps ks : List Str} {p pos kpos : Pos} {nm : Option Str} {n : Nat} {g : {α : Type} → α → List α → List α → List α}
theorem bnd_to (hb : BndN x st ps ks n g) {f : Addr} {fd : FuncData} (F : FunN X.K x st f fd) {s : Shared} (I : X.K.In s.heap) {us ws : List Value} (h1 : us.length = n) (h2 : ws.length = ks.length) : BindsTo s fd ⟨us, ks.zip ws⟩ (ps.zip (g .none us ws)) := by
  obtain ⟨oc, od, T, oT, nT, kV, doc, pm, an, cdv, ct, osl, rfl, lk, hcd, lT, dT⟩ := F.ex
  obtain ⟨k, e1, e2⟩ := hb T kV doc pm an cdv ct us ws h1 h2
  refine BindsTo.of_looks fun M => ?_
  rw [e1]
  exact looks_items I lT dT (.of_pure e2)
theorem de_fnN (R : GRel g) (F : FnN X.prog X.w X.K X.mg X.base x st ps c k) (hb : BndN x st ps [] n g) (ha : DA X (e :: es) fs) (hr : RoomG j X.A) (hj : k ≤ j := by decide) (hg : Gl X x := by rfl)
    (hdb : (x == ("__debug__" : Str)) = false := by decide) (he : starEach (e :: es) X.env = (false, eval e X.env) :: starEach es X.env := by rfl) (hpl : (backTo pos (starEach es X.env)).any (·.1) = false := by rfl) :
    DE X (.Call (.Name x p) (e :: es) [] pos) (fCallK c n 0 (g D.non) fs fNil) := by
  obtain ⟨f, fd, hF, hm, hok⟩ := F.ex
  obtain ⟨t, pa, hf⟩ := ha
  refine ⟨fun σ H Q => t σ H fun vs H1 => vs.length = n ∧ specOf c (g V.non vs []) H1 Q E0, ⟨fun pins s σ H Q I h => ?_⟩, fun B R' w σ H ss G Q o hw hq => hf B R' w σ H ss _ _ o hw fun vs H1 ds s1 w1 o1 r1 e1 h1 => ?_⟩
  · refine wpAny_Call_Name_kw (ld_glob I hg hm ?_ hdb)
    refine PySem.W.callWith_K (h₀ := X.base) I.ok.mod.kin hF.kp (thn (pa.run pos pins s σ H _ I h) fun us s1 ⟨vs, H1, I1, r, l1, q⟩ => ⟨I1.kIn, ?_⟩) he hpl
    exact fn_back hok (hr.le hj) I1 (args := ⟨us, []⟩) (us := g .none us []) (bnd_to hb hF I1.kIn (ws := []) (r.length.symm.trans l1) rfl) (R.vals r .nil) q
  · obtain ⟨l1, l2, h1⟩ := h1
    refine ⟨r1.length.trans l1, w1, g D.non ds [], s1.S, _, o1.pre, R.reps r1 rfl, h1, fun v H' p => ?_⟩
    obtain ⟨r, s2, w2, o2, r2, e2, hs, g2⟩ := o1.called p
    refine hq v H' r s2 w2 o2 r2 (e1.trans e2) ?_
    have : s2 = { r := s1.r, S := s2.S } := by rw [← hs]
    rw [this]; exact g2
theorem de_fnKN (R : GRel g) (F : FnN X.prog X.w X.K X.mg X.base x st ps c k) (hb : BndN x st ps ks n g)
    (ha : DA X (e :: es) fs) (hkw : DK X kws gs) (hr : RoomG j X.A) (hall : (backToKw pos (keywordEach kws X.env)).all (·.1.isSome) = true := by rfl) (hks : (backToKw pos (keywordEach kws X.env)).filterMap (·.1) = ks := by rfl) (hj : k ≤ j := by decide) (hg : Gl X x := by rfl)
    (hdb : (x == ("__debug__" : Str)) = false := by decide) (he : starEach (e :: es) X.env = (false, eval e X.env) :: starEach es X.env := by rfl)
    (hpl : ((backTo pos (starEach (e :: es) X.env)).any (·.1) || (backToKw pos (keywordEach kws X.env)).any (·.1.isNone)) = false := by rfl) :
    DE X (.Call (.Name x p) (e :: es) kws pos) (fCallK c n ks.length (g D.non) fs gs) := by
  obtain ⟨f, fd, hF, hm, hok⟩ := F.ex
  obtain ⟨t, pa, hf⟩ := ha
  obtain ⟨t2, pk, hf2⟩ := hkw
  refine ⟨fun σ H Q => t σ H fun vs H1 => t2 σ H1 fun zs H2 => vs.length = n ∧ zs.length = ks.length ∧ specOf c (g V.non vs zs) H2 Q E0, ⟨fun pins s σ H Q I h => ?_⟩, fun B R' w σ H ss G Q o hw hq => hf B R' w σ H ss _ _ o hw fun vs H1 ds s1 w1 o1 r1 e1 h1 => ?_⟩
  · refine wpAny_Call_Name_kw (ld_glob I hg hm ?_ hdb)
    refine PySem.W.callWith_KW (h₀ := X.base) I.ok.mod.kin hF.kp hall (thn (pa.run pos pins s σ H _ I h) fun us s1 ⟨vs, H1, I1, r, q⟩ => ?_) hpl he
    refine thn (pk.run pos pins s1 σ H1 _ I1 q) fun ws s2 ⟨zs, H2, I2, rz, l1, l2, q2⟩ => ⟨I2.kIn, ?_⟩
    rw [hks]
    exact fn_back hok (hr.le hj) I2 (args := ⟨us, ks.zip ws⟩) (us := g .none us ws) (bnd_to hb hF I2.kIn (r.length.symm.trans l1) (rz.length.symm.trans l2)) (R.vals r rz) q2
  · refine hf2 B R' w1 σ H1 s1 _ _ o1 h1 fun zs H2 es s2 w2 o2 r2 e2 h2 => ?_
    obtain ⟨l1, l2, h2⟩ := h2
    refine ⟨r1.length.trans l1, r2.length.trans l2, w2, g D.non ds es, s2.S, _, o2.pre, R.reps (r1.ext e2) r2, h2, fun v H' p => ?_⟩
    obtain ⟨r, s3, w3, o3, r3, e3, hs, g3⟩ := o2.called p
    refine hq v H' r s3 w3 o3 r3 (e1.trans (e2.trans e3)) ?_
    have : s3 = { r := s2.r, S := s3.S } := by rw [← hs]
    rw [this]; exact g3
theorem de_fnK0N (R : GRel g) (F : FnN X.prog X.w X.K X.mg X.base x st ps c k) (hb : BndN x st ps ks 0 g)
    (hkw : DK X kws gs) (hr : RoomG j X.A) (hall : (backToKw pos (keywordEach kws X.env)).all (·.1.isSome) = true := by rfl) (hks : (backToKw pos (keywordEach kws X.env)).filterMap (·.1) = ks := by rfl) (hj : k ≤ j := by decide) (hg : Gl X x := by rfl)
    (hdb : (x == ("__debug__" : Str)) = false := by decide)
    (hpl : ((backTo pos (starEach [] X.env)).any (·.1) || (backToKw pos (keywordEach kws X.env)).any (·.1.isNone)) = false := by rfl) :
    DE X (.Call (.Name x p) [] kws pos) (fCallK c 0 ks.length (g D.non) fNil gs) := by
  obtain ⟨f, fd, hF, hm, hok⟩ := F.ex
  obtain ⟨t2, pk, hf2⟩ := hkw
  have hr1 := hr.le hj
  refine ⟨fun σ H Q => t2 σ H fun zs H2 => zs.length = ks.length ∧ specOf c (g V.non [] zs) H2 Q E0, ⟨fun pins s σ H Q I h => ?_⟩, fun B R' w σ H ss G Q o hw hq => ?_⟩
  · refine wpAny_Call_Name_kw (ld_glob I hg hm ?_ hdb)
    refine PySem.W.callWith_KW0 (h₀ := X.base) I.ok.mod.kin hF.kp hall ?_ hpl
    refine thn (pk.run pos pins s σ H _ I h) fun ws s2 ⟨zs, H2, I2, rz, l2, q2⟩ => ⟨I2.kIn, ?_⟩
    rw [hks]
    exact fn_back hok hr1 I2 (args := ⟨[], ks.zip ws⟩) (us := g .none [] ws) (bnd_to hb hF I2.kIn rfl (rz.length.symm.trans l2)) (R.vals .nil rz) q2
  · refine hf2 B R' w σ H ss _ _ o hw fun zs H2 es s2 w2 o2 r2 e2 h2 => ?_
    obtain ⟨l1, l2, h2⟩ := h2
    refine ⟨r2.length.trans l2, w2, g D.non [] es, s2.S, _, o2.pre, R.reps (ds := []) (vs := []) rfl r2, h2, fun v H' p => ?_⟩
    obtain ⟨r, s3, w3, o3, r3, e3, hs, g3⟩ := o2.called p
    refine hq v H' r s3 w3 o3 r3 (e2.trans e3) ?_
    have : s3 = { r := s2.r, S := s3.S } := by rw [← hs]
    rw [this]; exact g3
end
/-! list(x) -/
section
variable {X : Cx} {a : Expr} {p pos : Pos} {fr : WR}
theorem bt_list' : bootBuiltins "list" = some (.type "list") := by decide +kernel
theorem de_list (hm : X.mg "list" = none) (hg : Gl X "list" := by rfl) (ha : DR X [a] fr) (he : starEach [a] X.env = [(false, eval a X.env)] := by rfl) : DE X (.Call (.Name "list" p) [a] [] pos) (fBlt kList fr) :=
  de_bty call_list_of cx_list hm bt_list' hg ha (by decide) (by decide) he rfl
end
end Vl
namespace Vl
open PySem PySem.Spec L2
open PyProof.Rows hiding St

/-! ### wishes as plain lists of pairs -/
abbrev Wsh := List (Str × Str)
abbrev dW (W : Wsh) : D := .dic (kP D.str W)
structure WOk (W : Wsh) : Prop where
  nd : (keysS W).Nodup
  lab : ∀ p ∈ W, IsLab p.1 ∧ IsLab p.2
  ln : W.length ≤ 1000
abbrev Alw := Option (List Str)
def dA : Alw → D
  | none => .non
  | some l => dS l
structure AOk (A : Alw) : Prop where
  ok : ∀ l, A = some l → Labs l ∧ l.Nodup ∧ l.length ≤ 1000
def gl (W : Wsh) (x : Str) : Str := (getS W x).getD ""
def mvF (W : Wsh) : List Str := srtS ((keysS W).filter fun x => decide (gl W x ≠ x))
def rgGo (W : Wsh) (x : Str) : Nat → List Str → Str → List Str × Str
  | 0, r, a => (r, a)
  | n + 1, r, a => if a ∈ keysS W ∧ a ≠ x then rgGo W x n (r ++ [a]) (gl W a) else (r, a)
def rgF (W : Wsh) (x : Str) : List Str × Str := rgGo W x W.length [x] (gl W x)
def leS (x : Str) (r : List Str) : Bool := r.all (sle x)
def isRg (W : Wsh) (x : Str) : Bool := decide ((rgF W x).2 = x) && leS x (rgF W x).1
def rgsF (W : Wsh) : List (List Str) := ((mvF W).filter (isRg W)).map fun x => (rgF W x).1
def mayF (A : Alw) (x : Str) : Bool := match A with
  | none => true
  | some l => decide (x ∈ l)
def ptF (W : Wsh) (A : Alw) (r : List Str) (x : Str) : List Str := srtS (((keysS W).filter fun o => decide (o ∉ r) && decide (gl W o = gl W x)).filter (mayF A))
def lonF (W : Wsh) (A : Alw) (r : List Str) : Bool := decide ((r.filter fun x => decide (ptF W A r x ≠ [])) = [])
def lnF (W : Wsh) (A : Alw) : List (List Str) := (rgsF W).filter (lonF W A)
def rmP (W : Wsh) (sh : List Str) (x : Str) : Bool := decide (x ∉ keysS W) || (decide (x ∉ sh) && decide (gl W x ≠ x))
def rmF (W : Wsh) (A : Alw) (rs : List (List Str)) : Bool := match A with
  | none => true
  | some l => decide (l.filter (rmP W rs.flatten) ≠ [])
inductive Hin where
  | no | goal (x : Str) | ring (r : List Str)
def badF (W : Wsh) (A : Alw) : List Str := srtS (((mvF W).filter fun x => !mayF A (gl W x)).map (gl W))
def hinF (W : Wsh) (A : Alw) : Hin := match badF W A with
  | g :: _ => .goal g
  | [] => match lnF W A with
    | r :: _ => if rmF W A (lnF W A) = true then .no else .ring r
    | [] => .no
def dH : Hin → D
  | .no => .non
  | .goal x => .tup [.str "goal", .str x]
  | .ring r => .tup [.str "ring", dS r]
def oN : Option Nat → D
  | none => .non
  | some n => .int n
def lstF (W : Wsh) (A : Alw) : Option Nat := match hinF W A with
  | .no => some ((mvF W).length + (lnF W A).length)
  | _ => none
def flF (ms : List Stp) (W : Wsh) : Bool := decide (((keysS W).filter fun x => decide (imgF ms x ≠ gl W x)) = [])
def lfP (ms : List Stp) (W : Wsh) : List Str → Wsh → Option Wsh
  | [], f => some f
  | x :: xs, f => if (getS f (imgF ms x)).getD (gl W x) ≠ gl W x then none else lfP ms W xs (putS f (imgF ms x) (gl W x))
def lfF (ms : List Stp) (W : Wsh) : Option Wsh := lfP ms W (srtS (keysS W)) []
def oW : Option Wsh → Re
  | none => .val .non
  | some W => .new (.dic (kP D.str W))

section
variable {W : Wsh} {A : Alw} {x y : Str} {r : List Str}
theorem keysD_kP {β : Type} {e : β → D} {l : List (Str × β)} : (kP e l).map (fun kv => kD kv.1) = (keysS l).map D.str := by unfold kP keysS; rw [List.map_map, List.map_map]; rfl
theorem some_getS {β : Type} {l : List (Str × β)} {x : Str} : (getS l x).isSome = decide (x ∈ keysS l) := by
  rw [Bool.eq_iff_iff, decide_eq_true_iff, ← Decidable.not_iff_not, Bool.not_eq_true, Option.isSome_eq_false_iff, Option.isNone_iff_eq_none]
  exact getS_none
theorem has_kP {β : Type} {e : β → D} {l : List (Str × β)} {x : Str} : (valD (kP e l) (.inr x)).isSome = decide (x ∈ keysS l) := by rw [valD_kP, Option.isSome_map, some_getS]
theorem getS_gl (h : x ∈ keysS W) : getS W x = some (gl W x) := by
  unfold gl
  cases q : getS W x with
  | none => exact absurd h (getS_none.mp q)
  | some v => rfl
theorem val_gl (h : x ∈ keysS W) : valD (kP D.str W) (.inr x) = some (.str (gl W x)) := by rw [valD_kP, getS_gl h]; rfl
theorem gl_out (h : x ∉ keysS W) : gl W x = "" := by unfold gl; rw [getS_none.mpr h]; rfl
theorem gl_mem (h : x ∈ keysS W) : (x, gl W x) ∈ W := getS_some (getS_gl h)
theorem WOk.key (o : WOk W) (h : x ∈ keysS W) : IsLab x := by
  obtain ⟨p, hp, rfl⟩ := List.mem_map.mp h
  exact (o.lab p hp).1
theorem WOk.goal (o : WOk W) (h : x ∈ keysS W) : IsLab (gl W x) := (o.lab _ (gl_mem h)).2
theorem WOk.keys (o : WOk W) : Labs (keysS W) := fun x h => o.key h
theorem len_keysS {β : Type} {l : List (Str × β)} : (keysS l).length = l.length := List.length_map ..
theorem mem_mvF : x ∈ mvF W ↔ x ∈ keysS W ∧ gl W x ≠ x := by unfold mvF; rw [mem_srtS, List.mem_filter, decide_eq_true_iff]
theorem len_mvF (W : Wsh) : (mvF W).length ≤ W.length := by unfold mvF; rw [len_srtS, ← len_keysS]; exact List.length_filter_le ..
theorem rgGo_len (x : Str) : ∀ (n : Nat) (r : List Str) (a : Str), (rgGo W x n r a).1.length ≤ r.length + n
  | 0, r, a => Nat.le_refl _
  | n + 1, r, a => by
    unfold rgGo
    split
    · have := rgGo_len x n (r ++ [a]) (gl W a)
      rw [List.length_append] at this
      exact Nat.le_trans this (by simp; omega)
    · show r.length ≤ _; omega
theorem rgGo_sub (x : Str) : ∀ (n : Nat) (r : List Str) (a : Str), (∀ y ∈ r, y ∈ keysS W) → ∀ y ∈ (rgGo W x n r a).1, y ∈ keysS W
  | 0, r, a, h => h
  | n + 1, r, a, h => by
    unfold rgGo
    split
    · rename_i c
      refine rgGo_sub x n (r ++ [a]) (gl W a) fun y hy => ?_
      rcases List.mem_append.mp hy with hy | hy
      · exact h y hy
      · rw [List.mem_singleton.mp hy]; exact c.1
    · exact h
theorem rgGo_pre (x : Str) : ∀ (n : Nat) (r : List Str) (a : Str), ∃ t, (rgGo W x n r a).1 = r ++ t
  | 0, r, a => ⟨[], (List.append_nil _).symm⟩
  | n + 1, r, a => by
    unfold rgGo
    split
    · obtain ⟨t, ht⟩ := rgGo_pre x n (r ++ [a]) (gl W a)
      exact ⟨a :: t, by rw [ht, List.append_assoc]; rfl⟩
    · exact ⟨[], (List.append_nil _).symm⟩
theorem rgF_head (W : Wsh) (x : Str) : ∃ t, (rgF W x).1 = x :: t := by
  obtain ⟨t, ht⟩ := rgGo_pre (W := W) x W.length [x] (gl W x)
  exact ⟨t, ht⟩
theorem rgF_len (W : Wsh) (x : Str) : (rgF W x).1.length ≤ W.length + 1 := by
  have := rgGo_len (W := W) x W.length [x] (gl W x)
  rw [List.length_singleton] at this
  unfold rgF; omega
theorem rgF_sub (h : x ∈ keysS W) : ∀ y ∈ (rgF W x).1, y ∈ keysS W := rgGo_sub x _ _ _ fun y hy => by rw [List.mem_singleton.mp hy]; exact h
theorem mem_rgsF : r ∈ rgsF W ↔ ∃ x, x ∈ mvF W ∧ isRg W x = true ∧ (rgF W x).1 = r := by
  unfold rgsF
  rw [List.mem_map]
  constructor
  · rintro ⟨x, hx, e⟩; exact ⟨x, (List.mem_filter.mp hx).1, (List.mem_filter.mp hx).2, e⟩
  · rintro ⟨x, h1, h2, e⟩; exact ⟨x, List.mem_filter.mpr ⟨h1, h2⟩, e⟩
theorem len_rgsF (W : Wsh) : (rgsF W).length ≤ W.length := by
  unfold rgsF
  rw [List.length_map]
  exact Nat.le_trans (List.length_filter_le ..) (len_mvF W)
theorem rgsF_sub (h : r ∈ rgsF W) : ∀ y ∈ r, y ∈ keysS W := by
  obtain ⟨x, h1, _, rfl⟩ := mem_rgsF.mp h
  exact rgF_sub (mem_mvF.mp h1).1
theorem rgsF_len (h : r ∈ rgsF W) : r.length ≤ W.length + 1 := by
  obtain ⟨x, h1, _, rfl⟩ := mem_rgsF.mp h
  exact rgF_len W x
theorem rgsF_ne (h : r ∈ rgsF W) : r ≠ [] := by
  obtain ⟨x, h1, _, rfl⟩ := mem_rgsF.mp h
  obtain ⟨t, e⟩ := rgF_head W x
  rw [e]; exact fun z => by cases z
theorem mem_lnF : r ∈ lnF W A ↔ r ∈ rgsF W ∧ lonF W A r = true := List.mem_filter
theorem len_lnF (W : Wsh) (A : Alw) : (lnF W A).length ≤ W.length := Nat.le_trans (List.length_filter_le ..) (len_rgsF W)
theorem mem_ptF : y ∈ ptF W A r x ↔ y ∈ keysS W ∧ y ∉ r ∧ gl W y = gl W x ∧ mayF A y = true := by
  unfold ptF
  rw [mem_srtS, List.mem_filter, List.mem_filter, Bool.and_eq_true, decide_eq_true_iff, decide_eq_true_iff]
  exact ⟨fun h => ⟨h.1.1, h.1.2.1, h.1.2.2, h.2⟩, fun h => ⟨⟨h.1, h.2.1, h.2.2.1⟩, h.2.2.2⟩⟩
theorem len_ptF : (ptF W A r x).length ≤ W.length := by
  unfold ptF
  rw [len_srtS, ← len_keysS]
  exact Nat.le_trans (List.length_filter_le ..) (List.length_filter_le ..)
theorem badF_lab (o : WOk W) : Labs (badF W A) := fun x hx => by
  unfold badF at hx
  obtain ⟨y, hy, rfl⟩ := List.mem_map.mp (mem_srtS.mp hx)
  exact o.goal (mem_mvF.mp (List.mem_filter.mp hy).1).1
theorem len_badF (W : Wsh) (A : Alw) : (badF W A).length ≤ W.length := by
  unfold badF
  rw [len_srtS, List.length_map]
  exact Nat.le_trans (List.length_filter_le ..) (len_mvF W)
theorem rgsF_lab (o : WOk W) (h : r ∈ rgsF W) : Labs r := fun y hy => o.key (rgsF_sub h y hy)
theorem flat_str {x : Str} : flatD (.str x) = true := rfl
theorem in_S {x : Str} {l : List Str} {neg : Bool} {P : Re → Prop} : kIn neg (.str x) (.lst (l.map D.str)) P = P (.val (.bl (neg ^^ decide (x ∈ l)))) := by
  rw [x_in_l, inL_e eqE_str]
  exact propext ⟨fun h => h.2, fun h => ⟨.inl ⟨rfl, flat_strs l⟩, h⟩⟩
theorem ix_W {P : Re → Prop} (h : x ∈ keysS W) : kIx (.dic (kP D.str W)) (.str x) P = P (.val (.str (gl W x))) := by
  rw [x_ix_ds, val_gl h]
  exact propext ⟨fun ⟨d, e, q⟩ => by cases e; exact q, fun q => ⟨_, rfl, q⟩⟩
theorem isNon_dA : isNon (dA A) = A.isNone := by cases A <;> rfl
theorem noRaw_dA : noRaw (dA A) = true := by cases A <;> rfl
theorem ly_dH {n : Nat} {h : Hin} (hg : ∀ x, h = .goal x → IsLab x) (hr : ∀ r, h = .ring r → Labs r) : ly (n + 2) (dH h) := by
  cases h with
  | no => exact ly_non
  | goal x => exact ly_pair (ly_str (by decide +kernel)) (hg x rfl).ly
  | ring r => exact ly_pair (ly_str (by decide +kernel)) (ly_dS (hr r rfl))
theorem hinF_goal (o : WOk W) (h : hinF W A = .goal x) : IsLab x := by
  unfold hinF at h
  split at h
  · rename_i g t e
    cases h
    exact badF_lab (A := A) o _ (by rw [e]; exact List.mem_cons_self)
  · split at h
    · split at h <;> cases h
    · cases h
theorem hinF_ring (o : WOk W) (h : hinF W A = .ring r) : Labs r ∧ r ∈ lnF W A := by
  unfold hinF at h
  split at h
  · cases h
  · split at h
    · rename_i q t e
      split at h
      · cases h
      · cases h
        have : r ∈ lnF W A := by rw [e]; exact List.mem_cons_self
        exact ⟨rgsF_lab o (mem_lnF.mp this).1, this⟩
    · cases h
theorem pick {b c : Bool} {p q : Prop} (e : b = c) (h1 : c = true → p) (h0 : c = false → q) : if b = true then p else q := by
  subst e
  cases b with
  | true => exact h1 rfl
  | false => exact h0 rfl
theorem pickA {b d c : Bool} {p q : Prop} (e : (b && d) = c) (h1 : c = true → p) (h0 : c = false → q) : if b = true then (if d = true then p else q) else q := by
  subst e
  cases b <;> cases d <;> first | exact h1 rfl | exact h0 rfl
theorem pickO {b d c : Bool} {p q : Prop} (e : (b || d) = c) (h1 : c = true → p) (h0 : c = false → q) : if b = true then p else (if d = true then p else q) := by
  subst e
  cases b <;> cases d <;> first | exact h1 rfl | exact h0 rfl
theorem min_le {x M : Str} {r : List Str} (hx : x ∈ r) (hM : M ∈ r) (h : ∀ y ∈ r, sle M y = true) : decide (x = M) = leS x r := by
  rw [Bool.eq_iff_iff, decide_eq_true_iff]
  unfold leS
  rw [List.all_eq_true]
  exact ⟨fun e y hy => e ▸ h y hy, fun q => sle_anti (q M hM) (h x hx)⟩
def rgsL (W : Wsh) (l : List Str) : List (List Str) := (l.filter (isRg W)).map fun x => (rgF W x).1
theorem len_rgsL (W : Wsh) (l : List Str) : (rgsL W l).length ≤ l.length := by unfold rgsL; rw [List.length_map]; exact List.length_filter_le ..
theorem rgsL_app {W : Wsh} {l : List Str} {x : Str} : rgsL W (l ++ [x]) = rgsL W l ++ (if isRg W x = true then [(rgF W x).1] else []) := by
  unfold rgsL
  rw [List.filter_append, List.map_append]
  congr 1
  rw [List.filter_cons]
  split <;> rfl
theorem cmp_S0 {l : List Str} (h : Labs l) : cmpOk (.lst (l.map D.str)) (.lst []) := cmp_ly (n := 1) (m := 1) (ly_dS h) ly_nil
theorem cmp_SS0 {l : List (List Str)} (h : ∀ r ∈ l, Labs r) : cmpOk (.lst (l.map dS)) (.lst []) := cmp_ly (n := 2) (m := 1) (ly_map fun r hr => ly_dS (h r hr)) ly_nil
theorem eqD_m0 {α : Type} {e : α → D} {as : List α} : eqD (.lst (as.map e)) (.lst []) = decide (as = []) := by rw [eqD_ll, eqL_m0]
theorem ptF_lab (o : WOk W) : Labs (ptF W A r x) := fun y hy => o.key (mem_ptF.mp hy).1
theorem sub_lab (o : WOk W) (h : ∀ y ∈ r, y ∈ keysS W) : Labs r := fun y hy => o.key (h y hy)
theorem Labs.filter {l : List Str} (h : Labs l) (p : Str → Bool) : Labs (l.filter p) := fun y hy => h y (List.mem_filter.mp hy).1
theorem pickN {b c : Bool} {p q : Prop} (e : b = !c) (h1 : c = true → p) (h0 : c = false → q) : if (!b) = true then p else q := pick (by rw [e, Bool.not_not]) h1 h0
theorem flat_len {rs : List (List Str)} {k : Nat} (h : ∀ r ∈ rs, r.length ≤ k) : rs.flatten.length ≤ rs.length * k := by
  induction rs with
  | nil => simp
  | cons r rs ih =>
    rw [List.flatten_cons, List.length_append, List.length_cons, Nat.add_mul]
    have := h r List.mem_cons_self
    have := ih fun r hr => h r (List.mem_cons_of_mem _ hr)
    omega
theorem uq_len {l : List Str} (h : l.Nodup) : (uq l).length = l.length := by rw [uq_nodup h]
theorem map_str_inj {l m : List Str} (h : l.map D.str = m.map D.str) : l = m := by
  have e := eqE_lst eqE_str l m
  have e2 := eqE_lst eqE_str l l
  rw [decide_eq_true rfl] at e2
  have e3 : eqD (.lst (l.map D.str)) (.lst (m.map D.str)) = true := by rw [← h]; exact e2
  rw [e3] at e
  exact of_decide_eq_true e.symm
end
end Vl
namespace Vl
open PySem PySem.Spec L2
open PyProof.Rows hiding St

/-! ### rings of a wish, in plain Lean -/
theorem nodup_sub_len {α : Type} [DecidableEq α] : ∀ {l t : List α}, l.Nodup → (∀ x ∈ l, x ∈ t) → l.length ≤ t.length
  | [], t, _, _ => Nat.zero_le _
  | x :: l, t, nd, h => by
    obtain ⟨n1, n2⟩ := List.nodup_cons.mp nd
    have hx := h x List.mem_cons_self
    have := nodup_sub_len (l := l) (t := t.erase x) n2 fun y hy => (List.mem_erase_of_ne (fun e : y = x => n1 (e ▸ hy))).mpr (h y (List.mem_cons_of_mem _ hy))
    rw [List.length_erase_of_mem hx] at this
    have : 0 < t.length := List.length_pos_of_mem hx
    rw [List.length_cons]; omega
def itG (W : Wsh) : Nat → Str → Str
  | 0, x => x
  | k + 1, x => itG W k (gl W x)
section
variable {W : Wsh} {A : Alw} {x y : Str} {r : List Str}
theorem itG_succ : ∀ (k : Nat) (x : Str), itG W (k + 1) x = gl W (itG W k x)
  | 0, x => rfl
  | k + 1, x => itG_succ k (gl W x)
theorem itG_add : ∀ (j k : Nat) (x : Str), itG W (j + k) x = itG W k (itG W j x)
  | 0, k, x => by rw [Nat.zero_add]; rfl
  | j + 1, k, x => by rw [Nat.add_right_comm]; exact itG_add j k (gl W x)
theorem itG_mul {k : Nat} (h : itG W k x = x) : ∀ n : Nat, itG W (n * k) x = x
  | 0 => by rw [Nat.zero_mul]; rfl
  | n + 1 => by rw [Nat.succ_mul, itG_add, itG_mul h n, h]
theorem itG_fix (h : gl W x = x) : ∀ n : Nat, itG W n x = x
  | 0 => rfl
  | n + 1 => by rw [itG, h]; exact itG_fix h n
def orb (W : Wsh) (x : Str) (k : Nat) : List Str := (List.range k).map fun i => itG W i x
theorem mem_orb {k : Nat} : y ∈ orb W x k ↔ ∃ i, i < k ∧ itG W i x = y := by
  unfold orb
  rw [List.mem_map]
  exact ⟨fun ⟨i, hi, e⟩ => ⟨i, List.mem_range.mp hi, e⟩, fun ⟨i, hi, e⟩ => ⟨i, List.mem_range.mpr hi, e⟩⟩
theorem orb_succ (k : Nat) : orb W x (k + 1) = orb W x k ++ [itG W k x] := by unfold orb; rw [List.range_succ, List.map_append]; rfl
/-- how the walk from x ends -/
theorem rgGo_orb : ∀ (n k : Nat), ∃ m, rgGo W x n (orb W x (k + 1)) (itG W (k + 1) x) = (orb W x (m + 1), itG W (m + 1) x) ∧ k ≤ m ∧ m ≤ k + n ∧ (∀ i, k < i → i ≤ m → itG W i x ∈ keysS W ∧ itG W i x ≠ x) ∧ (m = k + n ∨ itG W (m + 1) x ∉ keysS W ∨ itG W (m + 1) x = x)
  | 0, k => ⟨k, rfl, Nat.le_refl _, Nat.le_refl _, fun i h1 h2 => by omega, .inl rfl⟩
  | n + 1, k => by
    rw [rgGo]
    by_cases c : itG W (k + 1) x ∈ keysS W ∧ itG W (k + 1) x ≠ x
    · rw [if_pos c, ← orb_succ, ← itG_succ]
      obtain ⟨m, e, h1, h2, h3, h4⟩ := rgGo_orb n (k + 1)
      refine ⟨m, e, by omega, by omega, fun i i1 i2 => ?_, ?_⟩
      · by_cases q : i = k + 1
        · rw [q]; exact c
        · exact h3 i (by omega) i2
      · rcases h4 with h4 | h4
        · exact .inl (by omega)
        · exact .inr h4
    · rw [if_neg c]
      refine ⟨k, rfl, Nat.le_refl _, by omega, fun i h1 h2 => by omega, .inr ?_⟩
      by_cases q : itG W (k + 1) x ∈ keysS W
      · exact .inr (Decidable.not_not.mp fun z => c ⟨q, z⟩)
      · exact .inl q
theorem rgF_orb (W : Wsh) (x : Str) : ∃ m, rgF W x = (orb W x (m + 1), itG W (m + 1) x) ∧ m ≤ W.length ∧ (∀ i, 0 < i → i ≤ m → itG W i x ∈ keysS W ∧ itG W i x ≠ x) ∧ (m = W.length ∨ itG W (m + 1) x ∉ keysS W ∨ itG W (m + 1) x = x) := by
  obtain ⟨m, e, _, h2, h3, h4⟩ := rgGo_orb (W := W) (x := x) W.length 0
  rw [Nat.zero_add] at h2 h4
  exact ⟨m, e, h2, h3, h4⟩
/-- what a ring is -/
structure IsRing (W : Wsh) (r : List Str) (x : Str) (m : Nat) : Prop where
  eq : r = orb W x (m + 1)
  back : itG W (m + 1) x = x
  keys : ∀ i, itG W i x ∈ keysS W
  ne : ∀ i, 0 < i → i ≤ m → itG W i x ≠ x
  pos : 0 < m
  least : ∀ y ∈ r, sle x y = true
theorem ring_of (h : r ∈ rgsF W) : ∃ x m, IsRing W r x m ∧ r.headD "" = x ∧ isRg W x = true ∧ x ∈ mvF W ∧ r = (rgF W x).1 := by
  obtain ⟨x, h1, h2, rfl⟩ := mem_rgsF.mp h
  obtain ⟨m, e, hm, h3, h4⟩ := rgF_orb W x
  obtain ⟨k1, k2⟩ := mem_mvF.mp h1
  have h2' := h2
  unfold isRg at h2
  rw [e, Bool.and_eq_true, decide_eq_true_iff] at h2
  obtain ⟨b, le⟩ := h2
  have b : itG W (m + 1) x = x := b
  have mp : 0 < m := by
    rcases Nat.eq_zero_or_pos m with z | z
    · subst z; exact absurd b k2
    · exact z
  have hk : ∀ i, i ≤ m → itG W i x ∈ keysS W := fun i hi => by
    rcases Nat.eq_zero_or_pos i with z | z
    · subst z; exact k1
    · exact (h3 i z hi).1
  have hk2 : ∀ i, itG W i x ∈ keysS W := fun i => by
    have e2 : itG W i x = itG W (i % (m + 1)) x := by
      have := Nat.div_add_mod i (m + 1)
      conv => lhs; rw [← this, Nat.mul_comm, itG_add, itG_mul b]
    rw [e2]
    exact hk _ (Nat.le_of_lt_succ (Nat.mod_lt i (show 0 < m + 1 by omega)))
  refine ⟨x, m, ⟨by rw [e], b, hk2, fun i i1 i2 => (h3 i i1 i2).2, mp, fun y hy => ?_⟩, ?_, h2', h1, rfl⟩
  · unfold leS at le
    rw [e] at hy
    exact List.all_eq_true.mp le y hy
  · obtain ⟨t, ht⟩ := rgF_head W x
    rw [ht]; rfl
theorem IsRing.mod {m : Nat} (R : IsRing W r x m) (i : Nat) : itG W i x = itG W (i % (m + 1)) x := by
  have := Nat.div_add_mod i (m + 1)
  conv => lhs; rw [← this, Nat.mul_comm, itG_add, itG_mul R.back]
theorem IsRing.mem {m : Nat} (R : IsRing W r x m) : y ∈ r ↔ ∃ i, itG W i x = y := by
  rw [R.eq, mem_orb]
  refine ⟨fun ⟨i, _, e⟩ => ⟨i, e⟩, fun ⟨i, e⟩ => ⟨i % (m + 1), Nat.mod_lt _ (Nat.succ_pos m), ?_⟩⟩
  rw [← R.mod]; exact e
theorem IsRing.inj {m i j : Nat} (R : IsRing W r x m) (h1 : i < j) (h2 : j ≤ m) : itG W i x ≠ itG W j x := fun e => by
  have e2 : itG W (i + (m + 1 - j)) x = itG W (j + (m + 1 - j)) x := by rw [itG_add, itG_add, e]
  rw [show j + (m + 1 - j) = m + 1 by omega, R.back] at e2
  exact R.ne _ (by omega) (by omega) e2
theorem IsRing.nodup {m : Nat} (R : IsRing W r x m) : r.Nodup := by
  rw [R.eq]
  unfold orb
  rw [List.nodup_iff_pairwise_ne, List.pairwise_map]
  refine List.Pairwise.imp_of_mem (fun {i j} hi hj (h : i < j) => R.inj h (by have := List.mem_range.mp hj; omega)) List.pairwise_lt_range
theorem IsRing.per {m : Nat} (R : IsRing W r x m) (h : y ∈ r) : itG W (m + 1) y = y := by
  obtain ⟨i, rfl⟩ := R.mem.mp h
  rw [← itG_add, Nat.add_comm, itG_add, R.back]
theorem IsRing.next {m : Nat} (R : IsRing W r x m) (h : y ∈ r) : gl W y ∈ r := by
  obtain ⟨i, rfl⟩ := R.mem.mp h
  exact R.mem.mpr ⟨i + 1, itG_succ i x⟩
theorem IsRing.prev {m : Nat} (R : IsRing W r x m) (h : y ∈ r) : ∃ z ∈ r, gl W z = y := by
  refine ⟨itG W m y, ?_, ?_⟩
  · obtain ⟨i, rfl⟩ := R.mem.mp h
    exact R.mem.mpr ⟨i + m, itG_add i m x⟩
  · rw [← itG_succ]; exact R.per h
theorem IsRing.moves {m : Nat} (R : IsRing W r x m) (h : y ∈ r) : gl W y ≠ y := fun e => by
  obtain ⟨i, rfl⟩ := R.mem.mp h
  have e1 := itG_fix e (i * m)
  have e2 : itG W (i + i * m) x = x := by
    rw [show i + i * m = i * (m + 1) by rw [Nat.mul_add, Nat.mul_one, Nat.add_comm]]
    exact itG_mul R.back i
  rw [itG_add, e1] at e2
  rw [e2] at e
  exact R.ne 1 (Nat.succ_pos 0) R.pos e
theorem IsRing.key {m : Nat} (R : IsRing W r x m) (h : y ∈ r) : y ∈ keysS W := by
  obtain ⟨i, rfl⟩ := R.mem.mp h
  exact R.keys i
/-- labels that come back stand in a ring -/
theorem min_ex : ∀ {l : List Str}, l ≠ [] → ∃ x ∈ l, ∀ y ∈ l, sle x y = true
  | [], h => absurd rfl h
  | [x], _ => ⟨x, List.mem_cons_self, fun y hy => by rw [List.mem_singleton.mp hy]; exact decide_eq_true (List.le_refl _)⟩
  | x :: z :: l, _ => by
    obtain ⟨u, hu, hle⟩ := min_ex (l := z :: l) (fun e => by cases e)
    rcases (Bool.or_eq_true _ _ ▸ sle_total x u : sle x u = true ∨ sle u x = true) with c | c
    · refine ⟨x, List.mem_cons_self, fun y hy => ?_⟩
      rcases List.mem_cons.mp hy with e | hy
      · rw [e]; exact decide_eq_true (List.le_refl _)
      · exact sle_trans _ _ _ c (hle y hy)
    · refine ⟨u, List.mem_cons_of_mem _ hu, fun y hy => ?_⟩
      rcases List.mem_cons.mp hy with e | hy
      · rw [e]; exact c
      · exact hle y hy
theorem emp_out (o : WOk W) : ("" : Str) ∉ keysS W := fun h => by
  have := (o.key h).lo
  rw [str_nil_len] at this
  omega
theorem it_emp (o : WOk W) : ∀ n, itG W n ("" : Str) = "" := itG_fix (gl_out (emp_out o))
theorem back_ring (o : WOk W) {k : Nat} (hk : 0 < k) (hy : y ∈ keysS W) (hm : gl W y ≠ y) (hb : itG W k y = y) : ∃ r ∈ rgsF W, y ∈ r := by
  have allk : ∀ i, itG W i y ∈ keysS W := fun i => by
    apply Decidable.byContradiction
    intro hn
    have e : itG W (i * k + k) y = y := by
      rw [show i * k + k = (i + 1) * k by rw [Nat.succ_mul]]
      exact itG_mul hb _
    have e2 : itG W (i + 1) y = ("" : Str) := by rw [itG_succ]; exact gl_out hn
    have hle : i + 1 ≤ i * k + k := by
      have := Nat.le_mul_of_pos_right i hk
      omega
    rw [show i * k + k = (i + 1) + (i * k + k - (i + 1)) by omega, itG_add, e2, it_emp o] at e
    exact emp_out o (e ▸ hy)
  obtain ⟨x, hx, hle⟩ := min_ex (l := orb W y k) (by
    intro e
    have := congrArg List.length e
    unfold orb at this
    simp at this
    omega)
  obtain ⟨i, hi, rfl⟩ := mem_orb.mp hx
  have perx : itG W k (itG W i y) = itG W i y := by rw [← itG_add, Nat.add_comm, itG_add, hb]
  have allx : ∀ j, itG W j (itG W i y) ∈ keysS W := fun j => by rw [← itG_add]; exact allk _
  have backy : itG W (k - i) (itG W i y) = y := by rw [← itG_add, show i + (k - i) = k by omega, hb]
  have movx : gl W (itG W i y) ≠ itG W i y := fun e => by
    have := itG_fix e (k - i)
    rw [backy] at this
    rw [← this] at e
    exact hm e
  generalize hX : itG W i y = x at *
  have xm : x ∈ mvF W := mem_mvF.mpr ⟨allx 0, movx⟩
  obtain ⟨m, e, m1, m2, m3⟩ := rgF_orb W x
  have bx : itG W (m + 1) x = x := by
    rcases m3 with h | h | h
    · exfalso
      have nn : ¬ (orb W x (m + 1)).Nodup := fun nd => by
        have := nodup_sub_len nd (t := keysS W) fun z hz => by
          obtain ⟨j, _, rfl⟩ := mem_orb.mp hz
          exact allx j
        rw [len_keysS] at this
        unfold orb at this
        rw [List.length_map, List.length_range] at this
        omega
      refine nn ?_
      unfold orb
      rw [List.nodup_iff_pairwise_ne, List.pairwise_map]
      refine List.Pairwise.imp_of_mem (fun {a b} ha hb2 (hab : a < b) e => ?_) List.pairwise_lt_range
      have hbm : b ≤ m := by have := List.mem_range.mp hb2; omega
      have ka : a ≤ a * k := Nat.le_mul_of_pos_right a hk
      have c1 : itG W (a * k - a) (itG W a x) = x := by rw [← itG_add, show a + (a * k - a) = a * k by omega]; exact itG_mul perx a
      have c2 : itG W (b - a) x = x := by
        conv => lhs; rw [← c1]
        rw [← itG_add, Nat.add_comm, itG_add, ← itG_add a, show a + (b - a) = b by omega, ← e]
        exact c1
      exact (m2 (b - a) (by omega) (by omega)).2 c2
    · exact absurd (allx _) h
    · exact h
  have ymod : ∀ j, itG W j x ∈ orb W y k := fun j => by
    rw [← hX, ← itG_add]
    refine mem_orb.mpr ⟨(i + j) % k, Nat.mod_lt _ hk, ?_⟩
    have := Nat.div_add_mod (i + j) k
    conv => rhs; rw [← this, Nat.mul_comm, itG_add, itG_mul hb]
  have isr : isRg W x = true := by
    unfold isRg
    rw [e, Bool.and_eq_true, decide_eq_true_iff]
    refine ⟨bx, ?_⟩
    unfold leS
    refine List.all_eq_true.mpr fun z hz => ?_
    obtain ⟨j, _, rfl⟩ := mem_orb.mp hz
    exact hle _ (ymod j)
  refine ⟨(rgF W x).1, mem_rgsF.mpr ⟨x, xm, isr, rfl⟩, ?_⟩
  rw [e]
  refine mem_orb.mpr ⟨(k - i) % (m + 1), Nat.mod_lt _ (show 0 < m + 1 by omega), ?_⟩
  have := Nat.div_add_mod (k - i) (m + 1)
  rw [← backy]
  conv => rhs; rw [← this, Nat.mul_comm, itG_add, itG_mul bx]
end
end Vl
namespace Vl
open PySem PySem.Spec L2
open PyProof.Rows hiding St

/-! ### shortest scripts as the program makes them -/
def brF (W : Wsh) (r : List Str) (x p : Str) : List Stp := (x, p) :: (List.range (r.length - 1)).map fun b => (r.getD ((r.idxOf x + r.length - (b + 1)) % r.length) "", gl W (r.getD ((r.idxOf x + r.length - (b + 1)) % r.length) ""))
def tnF (W : Wsh) (rs : List (List Str)) (p : Str) : List Stp := rs.flatMap fun r => brF W r (r.headD "") p ++ [(p, gl W (r.headD ""))]
def adF (W : Wsh) (A : Alw) (r : List Str) : Option (Str × Str) := ((srtS r).find? fun x => decide (ptF W A r x ≠ [])).map fun x => (x, (ptF W A r x).headD "")
def asF (W : Wsh) (A : Alw) : List (Str × (Str × Str)) := (rgsF W).filterMap fun r => (adF W A r).map fun q => (r.headD "", q)
def eQ (q : Str × Str) : D := .tup [.str q.1, .str q.2]
def nmsF (n : Nat) : List Str := (List.range (2 * n + 1)).map fun (i : Nat) => Str.ofString (toString (i : Int))
def freF (W : Wsh) (A : Alw) : Option Str := match A with
  | some l => (l.filter fun x => decide (x ∉ keysS W)).head?
  | none => ((nmsF W.length).filter fun x => decide (x ∉ keysS W) && decide (x ∉ (keysS W).map (gl W))).head?
def waitF (rest : List Str) (al : List (List Str)) : List Str := rest ++ al.flatten
def pickF (W : Wsh) (rest : List Str) (al : List (List Str)) : Str := (rest.filter fun x => decide (gl W x ∉ waitF rest al)).headD ""
def outGo (W : Wsh) (A : Alw) : Nat → List Stp → List Str → List (List Str) → List Stp
  | 0, ms, _, _ => ms
  | n + 1, ms, rest, al => if rest = [] then ms else if mayF A (pickF W rest al) = true then outGo W A n (ms ++ [(pickF W rest al, gl W (pickF W rest al))] ++ tnF W al (pickF W rest al)) (rest.erase (pickF W rest al)) []
    else outGo W A n (ms ++ [(pickF W rest al, gl W (pickF W rest al))]) (rest.erase (pickF W rest al)) al
def outF (W : Wsh) (A : Alw) (al : List (List Str)) (rest : List Str) : List Stp := outGo W A rest.length [] rest al
def al0F (W : Wsh) (A : Alw) : List (List Str) := (rgsF W).filter fun r => (adF W A r).isNone
def scIni (W : Wsh) (A : Alw) : List Stp × List (List Str) := match freF W A with
  | some p => (tnF W (al0F W A) p, [])
  | none => ([], al0F W A)
def scStep (W : Wsh) (A : Alw) (st : List Stp × List (List Str)) (r : List Str) : List Stp × List (List Str) := match adF W A r with
  | none => st
  | some q => (st.1 ++ (brF W r q.1 q.2).take 1 ++ tnF W st.2 q.1 ++ (brF W r q.1 q.2).drop 1, [])
def scP (W : Wsh) (A : Alw) : List Stp × List (List Str) := (rgsF W).foldl (scStep W A) (scIni W A)
def outL (W : Wsh) : List Str := (mvF W).filter fun x => decide (x ∉ (rgsF W).flatten)
def scF (W : Wsh) (A : Alw) : List Stp := (scP W A).1 ++ outF W A (scP W A).2 (outL W)

section
variable {W : Wsh} {A : Alw} {x y p : Str} {r : List Str} {al rs : List (List Str)} {rest : List Str}
theorem leads_out (o : WOk W) {T : List Str} (h0 : T ≠ []) (h : ∀ b ∈ T, b ∈ keysS W ∧ gl W b ≠ b ∧ ∀ r ∈ rgsF W, b ∉ r) : ∃ b ∈ T, gl W b ∉ T := by
  apply Classical.byContradiction
  intro hn
  have all : ∀ b ∈ T, gl W b ∈ T := fun b hb => Classical.byContradiction fun z => hn ⟨b, hb, z⟩
  obtain ⟨x, hx⟩ := List.exists_mem_of_ne_nil T h0
  have allk : ∀ i, itG W i x ∈ T := fun i => by
    induction i with
    | zero => exact hx
    | succ i ih => rw [itG_succ]; exact all _ ih
  have nn : ¬ (orb W x (T.length + 1)).Nodup := fun nd => by
    have := nodup_sub_len nd (t := T) fun z hz => by
      obtain ⟨j, _, rfl⟩ := mem_orb.mp hz
      exact allk j
    unfold orb at this
    rw [List.length_map, List.length_range] at this
    omega
  refine nn ?_
  unfold orb
  rw [List.nodup_iff_pairwise_ne, List.pairwise_map]
  refine List.Pairwise.imp_of_mem (fun {a b} _ _ (hab : a < b) e => ?_) List.pairwise_lt_range
  obtain ⟨h1, h2, h3⟩ := h _ (allk a)
  have : itG W (b - a) (itG W a x) = itG W a x := by rw [← itG_add, show a + (b - a) = b by omega, ← e]
  obtain ⟨r, hr, hy⟩ := back_ring o (show 0 < b - a by omega) h1 h2 this
  exact h3 r hr hy
structure OutOk (W : Wsh) (A : Alw) (al : List (List Str)) (rest : List Str) : Prop where
  sub : ∀ b ∈ rest, b ∈ keysS W ∧ gl W b ≠ b ∧ ∀ r ∈ rgsF W, b ∉ r
  fre : al ≠ [] → (∃ a ∈ rest, mayF A a = true) ∧ ∀ b ∈ rest, mayF A b = true → gl W b ∉ al.flatten ∧ mayF A (gl W b) = true
  rgs : ∀ r ∈ al, r ∈ rgsF W
  few : al.length ≤ W.length
theorem OutOk.one (o : WOk W) (h : OutOk W A al rest) (hr : rest ≠ []) : ∃ b ∈ rest, gl W b ∉ waitF rest al := by
  by_cases q : al = []
  · subst q
    obtain ⟨b, h1, h2⟩ := leads_out o hr h.sub
    exact ⟨b, h1, by unfold waitF; rw [List.flatten_nil, List.append_nil]; exact h2⟩
  · obtain ⟨⟨a, ha, hma⟩, hf⟩ := h.fre q
    obtain ⟨b, h1, h2⟩ := leads_out o (T := rest.filter (mayF A)) (List.ne_nil_of_mem (List.mem_filter.mpr ⟨ha, hma⟩)) fun b hb => h.sub b (List.mem_filter.mp hb).1
    obtain ⟨b1, b2⟩ := List.mem_filter.mp h1
    obtain ⟨f1, f2⟩ := hf b b1 b2
    refine ⟨b, b1, fun m => ?_⟩
    rcases List.mem_append.mp m with m | m
    · exact h2 (List.mem_filter.mpr ⟨m, f2⟩)
    · exact f1 m
theorem OutOk.pick (o : WOk W) (h : OutOk W A al rest) (hr : rest ≠ []) : ∃ t, (rest.filter fun x => decide (gl W x ∉ waitF rest al)) = pickF W rest al :: t ∧ pickF W rest al ∈ rest := by
  obtain ⟨b, h1, h2⟩ := h.one o hr
  unfold pickF
  cases e : rest.filter fun x => decide (gl W x ∉ waitF rest al) with
  | nil =>
    have : b ∈ rest.filter fun x => decide (gl W x ∉ waitF rest al) := List.mem_filter.mpr ⟨h1, decide_eq_true h2⟩
    rw [e] at this; cases this
  | cons z t => exact ⟨t, rfl, (List.mem_filter.mp (show z ∈ rest.filter _ by rw [e]; exact List.mem_cons_self)).1⟩
theorem OutOk.nxt (h : OutOk W A al rest) (hx : mayF A x = false) : OutOk W A al (rest.erase x) :=
  ⟨fun b hb => h.sub b (List.mem_of_mem_erase hb), fun q => by
    obtain ⟨⟨a, ha, hm⟩, hf⟩ := h.fre q
    exact ⟨⟨a, (List.mem_erase_of_ne (fun e => by rw [e, hx] at hm; cases hm)).mpr ha, hm⟩, fun b hb => hf b (List.mem_of_mem_erase hb)⟩, h.rgs, h.few⟩
theorem OutOk.nxt0 (h : OutOk W A al rest) : OutOk W A [] (rest.erase x) := ⟨fun b hb => h.sub b (List.mem_of_mem_erase hb), fun q => absurd rfl q, (fun _ h => by cases h), Nat.zero_le _⟩
/-! sizes, labels -/
theorem len_brF (hr : r ≠ []) : (brF W r x p).length = r.length := by
  have := List.length_pos_iff.mpr hr
  unfold brF
  rw [List.length_cons, List.length_map, List.length_range]; omega
theorem len_tnF (h : ∀ r ∈ rs, r ∈ rgsF W) : (tnF W rs p).length ≤ rs.length * (W.length + 2) := by
  induction rs with
  | nil => simp [tnF]
  | cons r rs ih =>
    have ih := ih fun r hr => h r (List.mem_cons_of_mem _ hr)
    have h1 := len_brF (W := W) (x := r.headD "") (p := p) (rgsF_ne (h r List.mem_cons_self))
    have h2 := rgsF_len (h r List.mem_cons_self)
    show (brF W r (r.headD "") p ++ [(p, gl W (r.headD ""))] ++ tnF W rs p).length ≤ _
    rw [List.length_append, List.length_append, List.length_singleton, List.length_cons, Nat.add_mul]
    omega
theorem head_mem (h : r ≠ []) : r.headD "" ∈ r := by
  cases r with
  | nil => exact absurd rfl h
  | cons a t => exact List.mem_cons_self
theorem getD_mod {i : Nat} (h : r ≠ []) : r.getD (i % r.length) "" ∈ r := by
  have hl : i % r.length < r.length := Nat.mod_lt _ (List.length_pos_iff.mpr h)
  rw [List.getD_eq_getElem?_getD, List.getElem?_eq_getElem hl]
  exact List.getElem_mem hl
theorem brF_scr (o : WOk W) (hr : ∀ y ∈ r, y ∈ keysS W) (hx : x ∈ r) (hp : IsLab p) : IsScr (brF W r x p) := fun m hm => by
  unfold brF at hm
  rcases List.mem_cons.mp hm with e | hm
  · rw [e]; exact ⟨o.key (hr x hx), hp⟩
  · obtain ⟨b, _, rfl⟩ := List.mem_map.mp hm
    have := hr _ (getD_mod (i := r.idxOf x + r.length - (b + 1)) (List.ne_nil_of_mem hx))
    exact ⟨o.key this, o.goal this⟩
theorem tnF_scr (o : WOk W) (h : ∀ r ∈ rs, r ∈ rgsF W) (hp : IsLab p) : IsScr (tnF W rs p) := fun m hm => by
  obtain ⟨r, hr, hm⟩ := List.mem_flatMap.mp hm
  have hh := head_mem (rgsF_ne (h r hr))
  rcases List.mem_append.mp hm with hm | hm
  · exact brF_scr o (rgsF_sub (h r hr)) hh hp m hm
  · rw [List.mem_singleton.mp hm]; exact ⟨hp, o.goal (rgsF_sub (h r hr) _ hh)⟩
theorem adF_some {q : Str × Str} (h : adF W A r = some q) : q.1 ∈ r ∧ q.2 ∈ ptF W A r q.1 := by
  unfold adF at h
  obtain ⟨z, hz, rfl⟩ := Option.map_eq_some_iff.mp h
  have h1 := List.find?_some hz
  have h2 := mem_srtS.mp (List.mem_of_find?_eq_some hz)
  exact ⟨h2, head_mem (of_decide_eq_true h1)⟩
theorem adF_none (h : adF W A r = none) : ∀ x ∈ r, ptF W A r x = [] := fun x hx => by
  unfold adF at h
  rw [Option.map_eq_none_iff, List.find?_eq_none] at h
  have := h x (mem_srtS.mpr hx)
  simpa using this
theorem adF_lonF : (adF W A r).isNone = lonF W A r := by
  rw [Bool.eq_iff_iff, Option.isNone_iff_eq_none]
  unfold lonF
  rw [decide_eq_true_iff, List.filter_eq_nil_iff]
  constructor
  · intro h x hx
    rw [adF_none h x hx]
    decide
  · intro h
    unfold adF
    rw [Option.map_eq_none_iff, List.find?_eq_none]
    exact fun x hx => h x (mem_srtS.mp hx)
theorem al0F_ln (W : Wsh) (A : Alw) : al0F W A = lnF W A := by
  unfold al0F lnF
  exact List.filter_congr fun r _ => adF_lonF
theorem outGo_scr (o : WOk W) : ∀ (n : Nat) {ms : List Stp} {rest : List Str} {al : List (List Str)}, IsScr ms → OutOk W A al rest → IsScr (outGo W A n ms rest al)
  | 0, ms, rest, al, h, _ => h
  | n + 1, ms, rest, al, h, k => by
    unfold outGo
    by_cases q : rest = []
    · rw [if_pos q]; exact h
    · rw [if_neg q]
      obtain ⟨t, _, hp⟩ := k.pick o q
      obtain ⟨s1, s2, s3⟩ := k.sub _ hp
      have h2 : IsScr (ms ++ [(pickF W rest al, gl W (pickF W rest al))]) := fun m hm => by
        rcases List.mem_append.mp hm with hm | hm
        · exact h m hm
        · rw [List.mem_singleton.mp hm]; exact ⟨o.key s1, o.goal s1⟩
      by_cases c : mayF A (pickF W rest al) = true
      · rw [if_pos c]
        refine outGo_scr o n (fun m hm => ?_) k.nxt0
        rcases List.mem_append.mp hm with hm | hm
        · exact h2 m hm
        · exact tnF_scr o k.rgs (o.key s1) m hm
      · rw [if_neg c]
        exact outGo_scr o n h2 (k.nxt (by simpa using c))
end
end Vl
namespace Vl
open PySem PySem.Spec L2
open PyProof.Rows hiding St

/-! ### free places; no script is stuck -/
def labB (x : Str) : Bool := decide (1 ≤ x.length) && decide (x.length ≤ 40) && x.cps.toList.all fun c => decide (c ∈ sgn)
theorem labB_lab {x : Str} (h : labB x = true) : IsLab x := by
  unfold labB at h
  rw [Bool.and_eq_true, Bool.and_eq_true, decide_eq_true_iff, decide_eq_true_iff, List.all_eq_true] at h
  exact ⟨h.1.1, h.1.2, fun c hc => of_decide_eq_true (h.2 c hc)⟩
theorem nms60 : (nmsF 60).Nodup ∧ (nmsF 60).all labB = true := by decide +kernel
theorem nms_sub {n : Nat} (h : n ≤ 60) : (nmsF n).Sublist (nmsF 60) := by
  unfold nmsF
  refine List.Sublist.map _ ?_
  have : List.range (2 * n + 1) = (List.range (2 * 60 + 1)).take (2 * n + 1) := by rw [List.take_range, Nat.min_eq_left (by omega)]
  rw [this]
  exact List.take_sublist ..
theorem nms_lab {n : Nat} (h : n ≤ 60) : Labs (nmsF n) := fun x hx => labB_lab (List.all_eq_true.mp nms60.2 x ((nms_sub h).subset hx))
theorem len_nmsF (n : Nat) : (nmsF n).length = 2 * n + 1 := by unfold nmsF; rw [List.length_map, List.length_range]
section
variable {W : Wsh} {A : Alw} {x y p : Str} {r : List Str} {al rs : List (List Str)} {rest : List Str}
theorem fre_some (hW : W.length ≤ 60) : ∃ (p : Str) (t : List Str), ((nmsF W.length).filter fun x => decide (x ∉ keysS W) && decide (x ∉ (keysS W).map (gl W))) = p :: t := by
  cases e : (nmsF W.length).filter fun x => decide (x ∉ keysS W) && decide (x ∉ (keysS W).map (gl W)) with
  | cons p t => exact ⟨p, t, rfl⟩
  | nil =>
    exfalso
    rw [List.filter_eq_nil_iff] at e
    have := nodup_sub_len (nms60.1.sublist (nms_sub hW)) (t := keysS W ++ (keysS W).map (gl W)) fun x hx => by
      have h := e x hx
      by_cases q : x ∈ keysS W
      · exact List.mem_append_left _ q
      · by_cases q2 : x ∈ (keysS W).map (gl W)
        · exact List.mem_append_right _ q2
        · rw [Bool.and_eq_true, decide_eq_true_iff, decide_eq_true_iff] at h
          exact absurd ⟨q, q2⟩ h
    rw [len_nmsF, List.length_append, List.length_map, len_keysS] at this
    omega
theorem freF_lab (oA : AOk A) (hW : W.length ≤ 60) (h : freF W A = some p) : IsLab p ∧ p ∉ keysS W ∧ mayF A p = true := by
  unfold freF at h
  cases A with
  | some l =>
    have hm := List.mem_of_mem_head? h
    obtain ⟨h1, h2⟩ := List.mem_filter.mp hm
    exact ⟨(oA.ok l rfl).1 p h1, of_decide_eq_true h2, decide_eq_true h1⟩
  | none =>
    have hm := List.mem_of_mem_head? h
    obtain ⟨h1, h2⟩ := List.mem_filter.mp hm
    rw [Bool.and_eq_true, decide_eq_true_iff] at h2
    exact ⟨nms_lab hW p h1, h2.1, rfl⟩
theorem freF_ex (hW : W.length ≤ 60) : ∃ p, freF W none = some p := by
  obtain ⟨p, t, e⟩ := fre_some hW
  exact ⟨p, by unfold freF; simp only [e]; rfl⟩
theorem fold_nil : ∀ (L : List (List Str)) (st : List Stp × List (List Str)), st.2 = [] → (L.foldl (scStep W A) st).2 = []
  | [], st, h => h
  | r :: L, st, h => by
    rw [List.foldl_cons]
    refine fold_nil L _ ?_
    unfold scStep
    cases adF W A r with
    | none => exact h
    | some q => rfl
theorem fold_al : ∀ (L : List (List Str)) (st : List Stp × List (List Str)), (L.foldl (scStep W A) st).2 = [] ∨ ((∀ r ∈ L, adF W A r = none) ∧ L.foldl (scStep W A) st = st)
  | [], st => .inr ⟨fun _ h => (by cases h), rfl⟩
  | r :: L, st => by
    rw [List.foldl_cons]
    cases e : adF W A r with
    | some q => exact .inl (fold_nil L _ (by unfold scStep; rw [e]))
    | none =>
      have es : scStep W A st r = st := by unfold scStep; rw [e]
      rw [es]
      rcases fold_al L st with h | ⟨h1, h2⟩
      · exact .inl h
      · refine .inr ⟨fun z hz => ?_, h2⟩
        rcases List.mem_cons.mp hz with q | hz
        · rw [q]; exact e
        · exact h1 z hz
theorem scP_al (W : Wsh) (A : Alw) : (scP W A).2 = [] ∨ ((∀ r ∈ rgsF W, adF W A r = none) ∧ freF W A = none ∧ (scP W A).2 = rgsF W) := by
  unfold scP
  rcases fold_al (W := W) (A := A) (rgsF W) (scIni W A) with h | ⟨h1, h2⟩
  · exact .inl h
  · rw [h2]
    unfold scIni
    cases e : freF W A with
    | some p => exact .inl rfl
    | none =>
      refine .inr ⟨h1, rfl, ?_⟩
      show al0F W A = _
      unfold al0F
      rw [List.filter_eq_self]
      exact fun r hr => by rw [h1 r hr]; rfl
theorem mem_outL : x ∈ outL W ↔ (x ∈ keysS W ∧ gl W x ≠ x) ∧ ∀ r ∈ rgsF W, x ∉ r := by
  unfold outL
  rw [List.mem_filter, mem_mvF, decide_eq_true_iff, List.mem_flatten]
  exact ⟨fun h => ⟨h.1, fun r hr hx => h.2 ⟨r, hr, hx⟩⟩, fun h => ⟨h.1, fun ⟨r, hr, hx⟩ => h.2 r hr hx⟩⟩
theorem len_outL (W : Wsh) : (outL W).length ≤ W.length := Nat.le_trans (List.length_filter_le ..) (len_mvF W)
/-- what a script needs that goes on -/
theorem sc_ok (h : (∀ r ∈ rgsF W, adF W A r = none) → freF W A = none → rgsF W ≠ [] → (∃ a ∈ outL W, mayF A a = true) ∧ ∀ b ∈ outL W, mayF A b = true → mayF A (gl W b) = true) : OutOk W A (scP W A).2 (outL W) := by
  rcases scP_al W A with e | ⟨h1, h2, h3⟩
  · rw [e]
    exact ⟨fun b hb => ⟨(mem_outL.mp hb).1.1, (mem_outL.mp hb).1.2, (mem_outL.mp hb).2⟩, fun q => absurd rfl q, (fun _ h => by cases h), Nat.zero_le _⟩
  · rw [h3]
    refine ⟨fun b hb => ⟨(mem_outL.mp hb).1.1, (mem_outL.mp hb).1.2, (mem_outL.mp hb).2⟩, fun q => ?_, fun _ h => h, len_rgsF W⟩
    obtain ⟨g1, g2⟩ := h h1 h2 q
    refine ⟨g1, fun b hb hm => ⟨fun hz => ?_, g2 b hb hm⟩⟩
    obtain ⟨r, hr, hy⟩ := List.mem_flatten.mp hz
    obtain ⟨x, m, R, _⟩ := ring_of hr
    obtain ⟨⟨b1, b2⟩, b3⟩ := mem_outL.mp hb
    obtain ⟨z, hz, ez⟩ := R.prev hy
    have : b ∈ ptF W A r z := mem_ptF.mpr ⟨b1, b3 r hr, ez.symm, hm⟩
    rw [adF_none (h1 r hr) z hz] at this
    cases this
theorem badF_nil (h : badF W A = []) (hx : x ∈ mvF W) : mayF A (gl W x) = true := by
  unfold badF at h
  have h : (srtS (((mvF W).filter fun x => !mayF A (gl W x)).map (gl W))).length = 0 := by rw [h]; rfl
  rw [len_srtS, List.length_map, List.length_eq_zero_iff, List.filter_eq_nil_iff] at h
  have := h x hx
  simpa using this
theorem sc_ok_no (oA : AOk A) (hW : W.length ≤ 60) (h : hinF W A = .no) : OutOk W A (scP W A).2 (outL W) := by
  refine sc_ok fun h1 h2 h3 => ?_
  have hb : badF W A = [] := by
    unfold hinF at h
    split at h
    · cases h
    · assumption
  refine ⟨?_, fun b hb' _ => badF_nil hb (mem_mvF.mpr (mem_outL.mp hb').1)⟩
  have hl : lnF W A = rgsF W := by
    rw [← al0F_ln]
    unfold al0F
    rw [List.filter_eq_self]
    exact fun r hr => by rw [h1 r hr]; rfl
  cases A with
  | none =>
    obtain ⟨p, e⟩ := freF_ex hW
    rw [e] at h2; cases h2
  | some l =>
    have hr : rmF W (some l) (lnF W (some l)) = true := by
      unfold hinF at h
      rw [hb] at h
      split at h
      · cases h
      · split at h
        · split at h
          · assumption
          · cases h
        · rename_i e
          rw [hl] at e
          exact absurd e h3
    rw [hl] at hr
    unfold rmF at hr
    obtain ⟨a, ha⟩ := List.exists_mem_of_ne_nil _ (of_decide_eq_true hr)
    obtain ⟨a1, a2⟩ := List.mem_filter.mp ha
    have ak : a ∈ keysS W := by
      apply Decidable.byContradiction
      intro hn
      have : a ∈ l.filter fun x => decide (x ∉ keysS W) := List.mem_filter.mpr ⟨a1, decide_eq_true hn⟩
      unfold freF at h2
      rw [List.head?_eq_none_iff] at h2
      rw [h2] at this; cases this
    unfold rmP at a2
    rw [Bool.or_eq_true, Bool.and_eq_true, decide_eq_true_iff, decide_eq_true_iff, decide_eq_true_iff] at a2
    rcases a2 with a2 | ⟨a2, a3⟩
    · exact absurd ak a2
    · refine ⟨a, mem_outL.mpr ⟨⟨ak, a3⟩, fun r hr hx => a2 (List.mem_flatten.mpr ⟨r, hr, hx⟩)⟩, decide_eq_true a1⟩
/-! sizes and labels of scripts -/
theorem al0_sub : ∀ r ∈ al0F W A, r ∈ rgsF W := fun r hr => (List.mem_filter.mp hr).1
theorem len_al0 : (al0F W A).length ≤ W.length := Nat.le_trans (List.length_filter_le ..) (len_rgsF W)
structure ScSt (W : Wsh) (A : Alw) (k : Nat) (st : List Stp × List (List Str)) : Prop where
  scr : IsScr st.1
  len : st.1.length ≤ k * ((W.length + 1) * (W.length + 3))
  sub : ∀ r ∈ st.2, r ∈ rgsF W
  few : st.2.length ≤ W.length
theorem scIni_st (o : WOk W) (oA : AOk A) (hW : W.length ≤ 60) : ScSt W A 1 (scIni W A) := by
  unfold scIni
  cases e : freF W A with
  | none => exact ⟨(fun _ h => by cases h), Nat.zero_le _, al0_sub, len_al0⟩
  | some p =>
    refine ⟨tnF_scr o al0_sub (freF_lab oA hW e).1, ?_, (fun _ h => by cases h), Nat.zero_le _⟩
    have h1 := len_tnF (p := p) (W := W) (al0_sub (W := W) (A := A))
    have h2 : (al0F W A).length * (W.length + 2) ≤ W.length * (W.length + 2) := Nat.mul_le_mul_right _ len_al0
    have h3 : W.length * (W.length + 2) ≤ (W.length + 1) * (W.length + 3) := Nat.mul_le_mul (by omega) (by omega)
    show (tnF W (al0F W A) p).length ≤ _
    omega
theorem scStep_st (o : WOk W) {k : Nat} {st : List Stp × List (List Str)} (h : ScSt W A k st) (hr : r ∈ rgsF W) : ScSt W A (k + 1) (scStep W A st r) := by
  unfold scStep
  cases e : adF W A r with
  | none => exact ⟨h.scr, Nat.le_trans h.len (Nat.mul_le_mul_right _ (Nat.le_succ k)), h.sub, h.few⟩
  | some q =>
    obtain ⟨q1, q2⟩ := adF_some e
    have ql : IsLab q.2 := o.key (mem_ptF.mp q2).1
    have qk : IsLab q.1 := o.key (rgsF_sub hr _ q1)
    have hb := brF_scr o (rgsF_sub hr) q1 ql
    refine ⟨fun m hm => ?_, ?_, (fun _ h => by cases h), Nat.zero_le _⟩
    · rcases List.mem_append.mp hm with hm | hm
      · rcases List.mem_append.mp hm with hm | hm
        · rcases List.mem_append.mp hm with hm | hm
          · exact h.scr m hm
          · exact hb m (List.mem_of_mem_take hm)
        · exact tnF_scr o h.sub qk m hm
      · exact hb m (List.mem_of_mem_drop hm)
    · have h1 := len_brF (W := W) (x := q.1) (p := q.2) (rgsF_ne hr)
      have h2 := rgsF_len hr
      have h3 := len_tnF (p := q.1) h.sub
      have h4 : st.2.length * (W.length + 2) ≤ W.length * (W.length + 2) := Nat.mul_le_mul_right _ h.few
      have h5 : (W.length + 1) * (W.length + 3) = W.length * (W.length + 2) + (2 * W.length + 3) := by
        rw [Nat.add_mul, Nat.one_mul, show W.length + 3 = (W.length + 2) + 1 by omega, Nat.mul_add, Nat.mul_one]; omega
      have h6 := h.len
      rw [Nat.add_mul, Nat.one_mul]
      simp only [List.length_append, List.length_take, List.length_drop]
      omega
theorem scP_st (o : WOk W) (oA : AOk A) (hW : W.length ≤ 60) : ∀ (pre : List (List Str)), (∀ r ∈ pre, r ∈ rgsF W) → ScSt W A (1 + pre.length) (pre.foldl (scStep W A) (scIni W A)) := by
  intro pre h
  have : ∀ (L : List (List Str)) (k : Nat) (st : List Stp × List (List Str)), (∀ r ∈ L, r ∈ rgsF W) → ScSt W A k st → ScSt W A (k + L.length) (L.foldl (scStep W A) st) := by
    intro L
    induction L with
    | nil => exact fun k st _ h => h
    | cons r L ih =>
      intro k st hL h
      rw [List.foldl_cons, List.length_cons, show k + (L.length + 1) = (k + 1) + L.length by omega]
      exact ih (k + 1) _ (fun z hz => hL z (List.mem_cons_of_mem _ hz)) (scStep_st o h (hL r List.mem_cons_self))
  exact this pre 1 _ h (scIni_st o oA hW)
theorem outGo_len : ∀ (n : Nat) {ms : List Stp} {rest : List Str} {al : List (List Str)} (o : WOk W), OutOk W A al rest → (outGo W A n ms rest al).length ≤ ms.length + n * (1 + W.length * (W.length + 2))
  | 0, ms, rest, al, o, _ => by unfold outGo; omega
  | n + 1, ms, rest, al, o, k => by
    unfold outGo
    have h3 := len_tnF (p := pickF W rest al) k.rgs
    have h4 : al.length * (W.length + 2) ≤ W.length * (W.length + 2) := Nat.mul_le_mul_right _ k.few
    have h5 : (n + 1) * (1 + W.length * (W.length + 2)) = n * (1 + W.length * (W.length + 2)) + (1 + W.length * (W.length + 2)) := Nat.succ_mul ..
    by_cases q : rest = []
    · rw [if_pos q]; omega
    · rw [if_neg q]
      by_cases c : mayF A (pickF W rest al) = true
      · rw [if_pos c]
        refine Nat.le_trans (outGo_len n o k.nxt0) ?_
        rw [List.length_append, List.length_append, List.length_singleton]
        omega
      · rw [if_neg c]
        refine Nat.le_trans (outGo_len n o (k.nxt (by simpa using c))) ?_
        rw [List.length_append, List.length_singleton]
        omega
theorem scF_scr (o : WOk W) (oA : AOk A) (hW : W.length ≤ 60) (h : OutOk W A (scP W A).2 (outL W)) : IsScr (scF W A) ∧ (scF W A).length ≤ 1000000 := by
  have s := scP_st o oA hW (rgsF W) fun _ h => h
  have h1 := len_rgsF W
  have h2 := len_outL W
  have h3 := outGo_len (outL W).length (ms := []) o h
  refine ⟨fun m hm => ?_, ?_⟩
  · rcases List.mem_append.mp hm with hm | hm
    · exact s.scr m hm
    · exact outGo_scr o _ (fun _ h => by cases h) h m hm
  · unfold scF outF
    rw [List.length_append]
    have a1 : (1 + (rgsF W).length) * ((W.length + 1) * (W.length + 3)) ≤ 61 * (61 * 63) := Nat.mul_le_mul (by omega) (Nat.mul_le_mul (by omega) (by omega))
    have a2 : W.length * (W.length + 2) ≤ 60 * 62 := Nat.mul_le_mul (by omega) (by omega)
    have a3 : (outL W).length * (1 + W.length * (W.length + 2)) ≤ 60 * (1 + 60 * 62) := Nat.mul_le_mul (by omega) (by omega)
    have := s.len
    show (scP W A).1.length + _ ≤ _
    rw [List.length_nil] at h3
    have e : (scP W A).1.length ≤ (1 + (rgsF W).length) * ((W.length + 1) * (W.length + 3)) := this
    omega
end
end Vl
namespace Vl
open PySem PySem.Spec L2
open PyProof.Rows hiding St

/-! ### reading the program's own steps -/
section
variable {W : Wsh} {A : Alw} {x y p : Str} {r : List Str} {al rs : List (List Str)} {rest : List Str}
theorem srtD_down (ns : List Str) : srtD true (ns.map D.str) = ((srtS ns).reverse).map D.str := by
  have e : srtD true (ns.map D.str) = (ns.mergeSort fun a b => sle b a).map D.str := by
    have e := List.map_mergeSort (r := fun a b : Str => sle b a) (s := leD true) (f := D.str) (l := ns) (fun x _ y _ => by
      have := congrFun (congrFun (PySem.W.dataGe_str (fun z : Str => z)) x) y
      exact this.symm)
    exact e.symm
  rw [e]
  congr 1
  have tr : ∀ a b c : Str, sle b a = true → sle c b = true → sle c a = true := fun a b c h1 h2 => sle_trans _ _ _ h2 h1
  have tt : ∀ a b : Str, (sle b a || sle a b) = true := fun a b => sle_total b a
  have p1 := List.pairwise_mergeSort (le := fun a b : Str => sle b a) tr tt ns
  have p2 : ((srtS ns).reverse).Pairwise fun a b => sle b a = true := List.pairwise_reverse.mpr (srtS_pair ns)
  have pm : (ns.mergeSort fun a b => sle b a).Perm (srtS ns).reverse := ((List.mergeSort_perm ..).trans (perm_srtS ns).symm).trans (List.reverse_perm _).symm
  exact List.Perm.eq_of_pairwise (fun a b _ _ h1 h2 => sle_anti h2 h1) p1 p2 pm
theorem heads_eq (W : Wsh) : (rgsF W).map (fun r => r.headD "") = (mvF W).filter (isRg W) := by
  unfold rgsF
  rw [List.map_map]
  conv => rhs; rw [← List.map_id ((mvF W).filter (isRg W))]
  refine List.map_congr_left fun x _ => ?_
  obtain ⟨t, ht⟩ := rgF_head W x
  show (rgF W x).1.headD "" = x
  rw [ht]; rfl
theorem mvF_nodup (o : WOk W) : (mvF W).Nodup := nodup_srtS.mpr (o.nd.filter _)
theorem heads_nodup (o : WOk W) : ((rgsF W).map fun r => r.headD "").Nodup := by rw [heads_eq]; exact (mvF_nodup o).filter _
theorem head_inj {r' : List Str} (h : r ∈ rgsF W) (h' : r' ∈ rgsF W) (e : r.headD "" = r'.headD "") : r = r' := by
  obtain ⟨x, m, R, e1, _, _, f1⟩ := ring_of h
  obtain ⟨x', m', R', e2, _, _, f2⟩ := ring_of h'
  rw [f1, f2, ← e1, ← e2, e]
def asL (W : Wsh) (A : Alw) (l : List (List Str)) : List (Str × (Str × Str)) := l.filterMap fun r => (adF W A r).map fun q => (r.headD "", q)
theorem keys_asL {l : List (List Str)} {h : Str} : h ∈ keysS (asL W A l) → ∃ r ∈ l, r.headD "" = h := fun m => by
  obtain ⟨q, hq, rfl⟩ := List.mem_map.mp m
  obtain ⟨r, hr, e⟩ := List.mem_filterMap.mp hq
  obtain ⟨z, _, rfl⟩ := Option.map_eq_some_iff.mp e
  exact ⟨r, hr, rfl⟩
theorem as_get (o : WOk W) (h : r ∈ rgsF W) : getS (asF W A) (r.headD "") = adF W A r := by
  cases e : getS (asF W A) (r.headD "") with
  | some q =>
    have hm := getS_some e
    obtain ⟨r', hr', e'⟩ := List.mem_filterMap.mp hm
    obtain ⟨z, hz, ez⟩ := Option.map_eq_some_iff.mp e'
    have e1 : r'.headD "" = r.headD "" := congrArg Prod.fst ez
    have e2 : z = q := congrArg Prod.snd ez
    rw [head_inj h hr' e1.symm, hz, e2]
  | none =>
    cases e2 : adF W A r with
    | none => rfl
    | some q =>
      have : r.headD "" ∈ keysS (asF W A) := List.mem_map.mpr ⟨(r.headD "", q), List.mem_filterMap.mpr ⟨r, h, by rw [e2]; rfl⟩, rfl⟩
      exact absurd this (getS_none.mp e)
theorem putS_app {β : Type} {l : List (Str × β)} {h : Str} {v u : β} (hn : h ∉ keysS l) : putS (l ++ [(h, u)]) h v = l ++ [(h, v)] ∧ putS l h v = l ++ [(h, v)] := by
  constructor
  · unfold putS
    rw [if_pos (by rw [List.any_append, Bool.or_eq_true]; exact .inr (by simp)), List.map_append]
    congr 1
    · conv => rhs; rw [← List.map_id l]
      refine List.map_congr_left fun p hp => ?_
      rw [if_neg (fun e : p.1 = h => hn (e ▸ List.mem_map_of_mem hp))]; rfl
    · simp
  · unfold putS
    rw [if_neg (by rw [any_keysS, decide_eq_false hn]; exact Bool.false_ne_true)]
def addO {β : Type} (l : List (Str × β)) (h : Str) : Option β → List (Str × β)
  | none => l
  | some v => l ++ [(h, v)]
theorem putS_addO {β : Type} {l : List (Str × β)} {h : Str} {v : β} {u : Option β} (hn : h ∉ keysS l) : putS (addO l h u) h v = addO l h (some v) := by
  cases u with
  | none => exact (putS_app (u := v) hn).2
  | some u => exact (putS_app hn).1
theorem len_addO {β : Type} {l : List (Str × β)} {h : Str} {u : Option β} : (addO l h u).length ≤ l.length + 1 := by
  cases u with
  | none => exact Nat.le_succ _
  | some u => rw [addO, List.length_append]; exact Nat.le_refl _
def hitF (W : Wsh) (A : Alw) (r pl : List Str) : Option (Str × Str) := (pl.reverse.find? fun x => decide (ptF W A r x ≠ [])).map fun x => (x, (ptF W A r x).headD "")
theorem hitF_app {pl : List Str} : hitF W A r (pl ++ [x]) = if decide (ptF W A r x ≠ []) = true then some (x, (ptF W A r x).headD "") else hitF W A r pl := by
  unfold hitF
  rw [List.reverse_append, List.reverse_singleton, List.singleton_append, List.find?_cons]
  cases decide (ptF W A r x ≠ []) <;> rfl
theorem hitF_all : hitF W A r (srtS r).reverse = adF W A r := by unfold hitF adF; rw [List.reverse_reverse]
theorem asL_app {l : List (List Str)} : asL W A (l ++ [r]) = addO (asL W A l) (r.headD "") (adF W A r) := by
  unfold asL
  rw [List.filterMap_append]
  cases e : adF W A r with
  | none => simp [addO, e]
  | some q => simp [addO, e]
theorem len_asL {l : List (List Str)} : (asL W A l).length ≤ l.length := List.length_filterMap_le ..
theorem asL_all : asL W A (rgsF W) = asF W A := rfl
/-! places -/
theorem firstAt_idx {l : List Str} (h : x ∈ l) : firstAt (l.map D.str) (.str x) (l.idxOf x) := by
  have hl : l.idxOf x < l.length := List.idxOf_lt_length_of_mem h
  refine ⟨.str x, ?_, by simp [eqD_str], fun m z hm hz => ?_⟩
  · rw [List.getElem?_map, List.getElem?_eq_getElem hl, List.getElem_idxOf]; rfl
  · rw [List.getElem?_map, List.getElem?_eq_getElem (by omega)] at hz
    obtain rfl := Option.some.inj hz
    rw [eqD_str, decide_eq_false_iff_not]
    intro e
    have h2 := List.not_of_lt_findIdx (p := (· == x)) (xs := l) (i := m) hm
    rw [e] at h2
    simp at h2
theorem atI_mod {l : List Str} {a b : Nat} (ha : a < l.length) (hb : b < l.length) : L2.atI (l.map D.str) ((a : Int) - (b : Int)) = some (.str (l.getD ((a + l.length - b) % l.length) "")) := by
  by_cases q : b ≤ a
  · have e : (a + l.length - b) % l.length = a - b := by
      rw [show a + l.length - b = (a - b) + l.length by omega, Nat.add_mod_right, Nat.mod_eq_of_lt (by omega)]
    rw [e, show (a : Int) - (b : Int) = ((a - b : Nat) : Int) by omega]
    refine Vl.atI_nat ?_
    have hl : a - b < l.length := by omega
    rw [List.getElem?_map, List.getD_eq_getElem?_getD, List.getElem?_eq_getElem hl]; rfl
  · have e : (a + l.length - b) % l.length = a + l.length - b := Nat.mod_eq_of_lt (by omega)
    rw [e, show (a : Int) - (b : Int) = -(((b - a - 1 : Nat) : Int) + 1) by omega]
    refine Vl.atI_neg (j := a + l.length - b) (by rw [List.length_map]; omega) (by rw [List.length_map]; omega) ?_
    have hl : a + l.length - b < l.length := by omega
    rw [List.getElem?_map, List.getD_eq_getElem?_getD, List.getElem?_eq_getElem hl]; rfl
def brP (W : Wsh) (r : List Str) (x p : Str) (n : Nat) : List Stp := (x, p) :: (List.range n).map fun b => (r.getD ((r.idxOf x + r.length - (b + 1)) % r.length) "", gl W (r.getD ((r.idxOf x + r.length - (b + 1)) % r.length) ""))
theorem eQ_mk {a b : Str} : eQ (a, b) = .tup [.str a, .str b] := by unfold eQ; trivial
theorem brF_cons : ∃ bt, brF W r x p = (x, p) :: bt := ⟨_, rfl⟩
theorem brP_succ {n : Nat} : brP W r x p (n + 1) = brP W r x p n ++ [(r.getD ((r.idxOf x + r.length - (n + 1)) % r.length) "", gl W (r.getD ((r.idxOf x + r.length - (n + 1)) % r.length) ""))] := by
  unfold brP
  rw [List.range_succ, List.map_append, List.cons_append]; rfl
def shRe (W : Wsh) (A : Alw) : Re := match hinF W A with
  | .no => .new (.lst ((scF W A).map dSt))
  | _ => .val .non
def isSh (ms : List Stp) (W : Wsh) (A : Alw) : Bool := decide (((ms.filter fun m => !mayF A m.2).map fun m => m.2) = []) && (decide (lstF W A = some ms.length) && flF ms W)
end
end Vl
namespace Vl
open PySem PySem.Spec L2
open PyProof.Rows hiding St

/-! ### comprehensions over a list of one's own that stays one's own -/
section
variable {B : Hp} {R : Addr → Prop} {w : Wd} {σ : L2.St} {H : Hp} {ss : SS}
theorem put_away (o : Ok B R w σ H ss) {i : Nat} {c : C} (hi : ss.r[i]? = some (.own c)) {u : HO} (hu : H (w.os i) = some u) : Ok (upd B (w.os i) u) (fun a => R a ∨ a = w.os i) w σ H { ss with r := ss.r.set i .no } := by
  obtain ⟨h1, h2, h3, h4, h5, h6⟩ := o.ow i c hi
  refine ⟨o.le, fun b x h => ?_, fun a r => ?_, fun j d q => ?_, fun j c' q => ?_, fun j k c' c'' q q' e => ?_, o.ce, o.cl, fun a m => ?_, o.cn, by show (ss.r.set i .no).length = _; rw [List.length_set]; exact o.ln⟩
  · by_cases z : b = w.os i
    · subst z; rw [upd_same] at h; cases h; exact hu
    · rw [upd_ne z] at h; exact o.bs b x h
  · rcases r with r | rfl
    · exact o.rs a r
    · exact ⟨h3, h6, u, hu⟩
  · rcases set_get q with ⟨_, q, _⟩ | ⟨_, q⟩
    · cases q
    · exact o.vl j d q
  · rcases set_get q with ⟨_, q, _⟩ | ⟨ne, q⟩
    · cases q
    · obtain ⟨a1, a2, a3, a4, a5, a6⟩ := o.ow j c' q
      have nq : w.os j ≠ w.os i := fun z => ne (o.oi j i c' c q hi z)
      exact ⟨a1, a2, a3, by rw [upd_ne nq]; exact a4, fun z => z.elim a5 nq, a6⟩
  · rcases set_get q with ⟨_, q, _⟩ | ⟨_, q⟩
    · cases q
    · rcases set_get q' with ⟨_, q', _⟩ | ⟨_, q'⟩
      · cases q'
      · exact o.oi j k c' c'' q q' e
  · obtain ⟨a1, a2⟩ := o.cf a m
    exact ⟨a1, by rw [upd_ne (fun z : a = w.os i => h6 (z ▸ m))]; exact a2⟩
def osAt (w : Wd) (i : Nat) (a : Addr) : Wd := { w with os := fun j => if j = i then a else w.os j }
theorem osAt_ext {i : Nat} {a : Addr} : Ext w (osAt w i a) := ⟨fun _ _ h => h, fun _ _ h => h⟩
theorem take_back {a : Addr} {u : HO} {i : Nat} {c : C} (o : Ok (upd B a u) (fun b => R b ∨ b = a) w σ H ss) (hB : B a = none) (hR : ¬ R a) (hs : σ[i]? = some (some (.ref a))) (hc : Cel w H a c) :
    Ok B R (osAt w i a) σ H { ss with r := ss.r.set i (.own c) } := by
  obtain ⟨r1, r2, _⟩ := o.rs a (.inr rfl)
  have il : i < ss.r.length := by rw [o.ln]; exact (List.getElem?_eq_some_iff.mp hs).1
  have osn : ∀ j, j ≠ i → (osAt w i a).os j = w.os j := fun j h => if_neg h
  have osi : (osAt w i a).os i = a := if_pos rfl
  refine ⟨o.le, fun b x h => o.bs b x (by rw [upd_ne (fun z => by rw [z, hB] at h; cases h)]; exact h), fun b r => o.rs b (.inl r), fun j d q => ?_, fun j c' q => ?_, fun j k c' c'' q q' e => ?_, fun n c' q => ?_, o.cl, fun b m => ?_, o.cn, by show (ss.r.set i _).length = _; rw [List.length_set]; exact o.ln⟩
  · rcases set_get q with ⟨_, q, _⟩ | ⟨_, q⟩
    · cases q
    · obtain ⟨v, v1, v2⟩ := o.vl j d q
      exact ⟨v, v1, v2.ext osAt_ext⟩
  · rcases set_get q with ⟨rfl, q, _⟩ | ⟨ne, q⟩
    · cases q
      rw [osi]
      exact ⟨hs, hc.ext osAt_ext rfl, r1, hB, hR, r2⟩
    · obtain ⟨a1, a2, a3, a4, a5, a6⟩ := o.ow j c' q
      rw [osn j ne]
      have nq : w.os j ≠ a := fun z => a5 (.inr z)
      rw [upd_ne nq] at a4
      exact ⟨a1, a2.ext osAt_ext rfl, a3, a4, fun z => a5 (.inl z), a6⟩
  · rcases set_get q with ⟨z1, _, _⟩ | ⟨ne, q1⟩
    · rcases set_get q' with ⟨z2, _, _⟩ | ⟨ne', q2⟩
      · rw [z1, z2]
      · rw [z1, osi, osn k ne'] at e
        obtain ⟨_, _, _, _, a5, _⟩ := o.ow k c'' q2
        exact absurd (.inr e.symm) a5
    · rcases set_get q' with ⟨z2, _, _⟩ | ⟨ne', q2⟩
      · rw [z2, osi, osn j ne] at e
        obtain ⟨_, _, _, _, a5, _⟩ := o.ow j c' q1
        exact absurd (.inr e) a5
      · rw [osn j ne, osn k ne'] at e
        exact o.oi j k c' c'' q1 q2 e
  · obtain ⟨b, b1, b2⟩ := o.ce n c' q
    exact ⟨b, b1, b2.ext osAt_ext rfl⟩
  · obtain ⟨b1, b2⟩ := o.cf b m
    rw [upd_ne (fun z : b = a => r2 (z ▸ m))] at b2
    exact ⟨b1, b2⟩
theorem back_rep {a : Addr} {u : HO} {i : Nat} {c : C} {r : Re} {v : V} (hB : B a = none) (h : RepR (upd B a u) (fun b => R b ∨ b = a) w σ H ss r v) : RepR B R (osAt w i a) σ H { ss with r := ss.r.set i (.own c) } r v := by
  cases r with
  | val d => exact Rep.ext osAt_ext _ _ h
  | slo j => exact h
  | new c' =>
    obtain ⟨p, e, x, h1, h2, h3, h4, h5⟩ := h
    have pa : p ≠ a := fun z => h3 (.inr z)
    rw [upd_ne pa] at h2
    refine ⟨p, e, x.ext osAt_ext rfl, h1, h2, fun z => h3 (.inl z), h4, fun j c'' q => ?_⟩
    show (if j = i then a else w.os j) ≠ p
    split
    · exact fun z => pa z.symm
    · rename_i ne
      rcases set_get q with ⟨z, _, _⟩ | ⟨_, q⟩
      · exact absurd z ne
      · exact h5 j c'' q
theorem own_runs {K : PySem.W.Frag} {a : Addr} {ds : List D} {vs : List V} {B1 : Hp} {R1 : Addr → Prop} {w1 : Wd} (hB : B1 a = some (.lst vs)) (hr : RepL w1 ds vs) : Runs B1 R1 w1 (Itl K a) ds := by
  intro Be Re' w' σ' H' ss' hb o ex
  have q : SqL K H' a vs := .inl (.inl (hb a _ hB))
  refine ⟨fun i hi => ?_, fun i hi => ⟨vs, q, by rw [hr.length]; exact hi⟩⟩
  obtain ⟨v, hv, rv⟩ := hr.get (List.getElem?_eq_getElem hi)
  refine ⟨⟨vs, v, q, hv⟩, fun x H'' ⟨e, y⟩ => ?_⟩
  subst e
  have := y vs q
  rw [hv] at this; cases this
  exact ⟨_, w', List.getElem?_eq_getElem hi, o, .refl w', rv.ext ex⟩
end
section
variable {X : Cx} {elt tg iter : Expr} {pos : Pos} {g : WG} {gt : WT} {fv : WV} {ifs : List Expr} {scope : Scope} {vg : List Nat}
def lcO (i : Nat) (g : WG) (gt : WT) (fe : WV) (vs : List Nat) (x : Option SV) (ss : SS) (G : Re → SS → Prop) : Prop := match x with
  | some (.own (.lst xs)) => compW g gt fe vs xs [] (wipeS vs { ss with r := ss.r.set i .no }) fun acc s' => G (.new (.lst acc)) { unwS { ss with r := ss.r.set i .no } s' vs with r := (unwS { ss with r := ss.r.set i .no } s' vs).r.set i (.own (.lst xs)) }
  | _ => False
def fLcO (i : Nat) (g : WG) (gt : WT) (fe : WV) (vs : List Nat) : WE := fun ss G => lcO i g gt fe vs ss.r[i]? ss G
theorem de_lcO (own : List (Str × Nat)) (i : Nat) (hc : X.calm = true) (hN : X.N.Nodup) (ok : BlkOk X.N X.env.scope scope own) (hi : PE X iter (tVar i))
    (hg : ∀ (s : Shared) (H : Hp) (C : Addr) (cl : List (Str × Addr)) (fp : List Addr), DG (X.blk s H scope (compEnvC scope cl C X.env) fp) vg tg g) (hv : ∀ i ∈ vg, i ∈ own.map (·.2))
    (ht : ∀ (s : Shared) (H : Hp) (C : Addr) (cl : List (Str × Addr)) (fp : List Addr), DTs (X.blk s H scope (compEnvC scope cl C X.env) fp) ifs gt)
    (he : ∀ (s : Shared) (H : Hp) (C : Addr) (cl : List (Str × Addr)) (fp : List Addr), DV (X.blk s H scope (compEnvC scope cl C X.env) fp) elt fv) (hs : ∀ x, foldedSetIterable iter X.env x = pure x := by intro _; rfl) :
    DE X (.ListComp elt [⟨tg, iter, ifs, 0⟩] scope pos) (fLcO i g gt fv (own.map (·.2))) := by
  refine ⟨_, pe_unl (pe_lc hc hN (pi_any hi) ok (fun s H C cl fp => (hg s H C cl fp).pg) (fun s H C cl fp => ht s H C cl fp) (fun s H C cl fp => (he s H C cl fp).pe) hs), fun B R w σ H ss G Q o hw hq => ?_⟩
  unfold fLcO lcO at hw
  split at hw
  · rename_i xs e
    obtain ⟨h1, ⟨vs, hl, rl⟩, h3, h4, h5, h6⟩ := o.ow i _ e
    have o1 := put_away o e hl
    refine lc_runS (fi := fun s K => K xs s) hv _ _ w σ H _ (fun r s => G r { s with r := s.r.set i (.own (.lst xs)) }) _ (fun G' Q' hg' hq' => ?_) o1 hw fun v H2 r s2 w2 o2 r2 e2 g2 => ?_
    · exact ⟨_, h1, .inl ⟨_, rfl, ⟨vs, .inl (.inl hl)⟩, hq' _ H _ _ w _ _ o1 (.refl w) back_refl (own_runs upd_same rl) hg'⟩⟩
    · have hl2 : H2 (w.os i) = some (.lst vs) := o2.bs _ _ upd_same
      exact hq v H2 r _ _ (take_back (c := .lst xs) o2 h4 h5 h1 ⟨vs, hl2, rl.ext e2⟩) (back_rep h4 r2) (e2.trans osAt_ext) g2
  · exact hw.elim
theorem x_lcO {i : Nat} {fe : WV} {vs : List Nat} {xs : List D} {ss : SS} {G : Re → SS → Prop} : lcO i g gt fe vs (some (.own (.lst xs))) ss G = compW g gt fe vs xs [] (wipeS vs { ss with r := ss.r.set i .no }) fun acc s' => G (.new (.lst acc)) { unwS { ss with r := ss.r.set i .no } s' vs with r := (unwS { ss with r := ss.r.set i .no } s' vs).r.set i (.own (.lst xs)) } := propext Iff.rfl
end
end Vl
namespace Vl
open PySem PySem.Spec L2
open PyProof.Rows hiding St

/-! ### scripts made shorter -/
def imW (ms : List Stp) : Wsh := (nmF ms).map fun x => (x, imgF ms x)
def imA (ms : List Stp) : Alw := some (nmF ms)
section
variable {ms : List Stp} {x : Str}
theorem keys_imW : keysS (imW ms) = nmF ms := by unfold imW keysS; rw [List.map_map]; exact List.map_id _
theorem getS_imW (h : x ∈ nmF ms) : getS (imW ms) x = some (imgF ms x) := by
  have := getS_mem (l := imW ms) (by rw [keys_imW]; exact nodup_nmF ms) (p := (x, imgF ms x)) (List.mem_map.mpr ⟨x, h, rfl⟩)
  exact this
theorem gl_imW (h : x ∈ nmF ms) : gl (imW ms) x = imgF ms x := by unfold gl; rw [getS_imW h]; rfl
theorem imW_ok (hs : IsScr ms) (hl : (nmF ms).length ≤ 1000) : WOk (imW ms) := ⟨by rw [keys_imW]; exact nodup_nmF ms, fun p hp => by
  obtain ⟨x, hx, rfl⟩ := List.mem_map.mp hp
  exact ⟨nmF_lab hs x hx, imgF_lab hs (nmF_lab hs x hx)⟩, by unfold imW; rw [List.length_map]; exact hl⟩
theorem imA_ok (hs : IsScr ms) (hl : (nmF ms).length ≤ 1000) : AOk (imA ms) := ⟨fun l e => by cases e; exact ⟨nmF_lab hs, nodup_nmF ms, hl⟩⟩
theorem img_in : ∀ (ms : List Stp) (x : Str), imgF ms x = x ∨ ∃ m ∈ ms, imgF ms x = m.2
  | [], x => .inl rfl
  | m :: ms, x => by
    rw [imgF_cons]
    by_cases q : x = m.1
    · rw [if_pos q]
      rcases img_in ms m.2 with h | ⟨n, hn, h⟩
      · exact .inr ⟨m, List.mem_cons_self, h⟩
      · exact .inr ⟨n, List.mem_cons_of_mem _ hn, h⟩
    · rw [if_neg q]
      rcases img_in ms x with h | ⟨n, hn, h⟩
      · exact .inl h
      · exact .inr ⟨n, List.mem_cons_of_mem _ hn, h⟩
theorem img_nm (h : x ∈ nmF ms) : imgF ms x ∈ nmF ms := by
  rcases img_in ms x with e | ⟨m, hm, e⟩
  · rw [e]; exact h
  · rw [e]; exact mem_nmF.mpr ⟨m, hm, .inr rfl⟩
/-- what changes a label melts two -/
theorem melts : ∀ ms : List Stp, (∀ x, imgF ms x = x) ∨ ∃ a b, a ≠ b ∧ a ∈ nmF ms ∧ b ∈ nmF ms ∧ imgF ms a = imgF ms b
  | [] => .inl fun _ => rfl
  | m :: ms => by
    by_cases q : m.1 = m.2
    · have e : ∀ x, imgF (m :: ms) x = imgF ms x := fun x => by
        rw [imgF_cons]
        by_cases z : x = m.1
        · rw [if_pos z, ← q, ← z]
        · rw [if_neg z]
      rcases melts ms with h | ⟨a, b, h1, h2, h3, h4⟩
      · exact .inl fun x => (e x).trans (h x)
      · have up : ∀ y, y ∈ nmF ms → y ∈ nmF (m :: ms) := fun y hy => by
          obtain ⟨n, hn, z⟩ := mem_nmF.mp hy
          exact mem_nmF.mpr ⟨n, List.mem_cons_of_mem _ hn, z⟩
        exact .inr ⟨a, b, h1, up a h2, up b h3, by rw [e, e, h4]⟩
    · refine .inr ⟨m.1, m.2, q, mem_nmF.mpr ⟨m, List.mem_cons_self, .inl rfl⟩, mem_nmF.mpr ⟨m, List.mem_cons_self, .inr rfl⟩, ?_⟩
      rw [imgF_cons, imgF_cons, if_pos rfl, if_neg (fun z => q z.symm)]
theorem sc_ok_script (hs : IsScr ms) (hl : (nmF ms).length ≤ 1000) : OutOk (imW ms) (imA ms) (scP (imW ms) (imA ms)).2 (outL (imW ms)) := by
  have o := imW_ok hs hl
  refine sc_ok fun h1 h2 h3 => ?_
  have may : ∀ y, y ∈ keysS (imW ms) → mayF (imA ms) y = true := fun y hy => by rw [keys_imW] at hy; exact decide_eq_true hy
  refine ⟨?_, fun b hb _ => ?_⟩
  · apply Classical.byContradiction
    intro hn
    have emp : ∀ y, y ∉ outL (imW ms) := fun y hy => hn ⟨y, hy, may y (mem_outL.mp hy).1.1⟩
    have ring : ∀ y, y ∈ keysS (imW ms) → gl (imW ms) y ≠ y → ∃ r ∈ rgsF (imW ms), y ∈ r := fun y hy hm => by
      apply Classical.byContradiction
      intro hz
      exact emp y (mem_outL.mpr ⟨⟨hy, hm⟩, fun r hr hyr => hz ⟨r, hr, hyr⟩⟩)
    have hm := melts ms
    rcases hm with hid | ⟨a, b, ab, ha, hb, e⟩
    · obtain ⟨r, hr⟩ := List.exists_mem_of_ne_nil _ h3
      obtain ⟨x, m, R, _⟩ := ring_of hr
      obtain ⟨y, hy⟩ := List.exists_mem_of_ne_nil _ (rgsF_ne hr)
      have yk := R.key hy
      refine R.moves hy ?_
      rw [keys_imW] at yk
      rw [gl_imW yk]
      exact hid y
    · rw [← gl_imW ha, ← gl_imW hb] at e
      have hak : a ∈ keysS (imW ms) := by rw [keys_imW]; exact ha
      have hbk : b ∈ keysS (imW ms) := by rw [keys_imW]; exact hb
      have one : ∀ a b, a ∈ keysS (imW ms) → b ∈ keysS (imW ms) → a ≠ b → gl (imW ms) a = gl (imW ms) b → gl (imW ms) a ≠ a := fun a b ha hb ab e fa => by
        have gb : gl (imW ms) b = a := by rw [← e, fa]
        obtain ⟨r, hr, hbr⟩ := ring b hb (by rw [gb]; exact ab)
        obtain ⟨x, m, R, _⟩ := ring_of hr
        have := R.next hbr
        rw [gb] at this
        exact R.moves this fa
      obtain ⟨r1, hr1, ha1⟩ := ring a hak (one a b hak hbk ab e)
      obtain ⟨r2, hr2, hb2⟩ := ring b hbk (one b a hbk hak (fun z => ab z.symm) e.symm)
      obtain ⟨x1, m1, R1, _⟩ := ring_of hr1
      obtain ⟨x2, m2, R2, _⟩ := ring_of hr2
      have p1 : itG (imW ms) ((m2 + 1) * (m1 + 1)) a = a := itG_mul (R1.per ha1) _
      have p2 : itG (imW ms) ((m1 + 1) * (m2 + 1)) b = b := itG_mul (R2.per hb2) _
      rw [Nat.mul_comm] at p2
      have e5 : (m2 + 1) * (m1 + 1) = (m2 * (m1 + 1) + m1) + 1 := by rw [Nat.add_mul, Nat.one_mul]; omega
      rw [e5, itG] at p1 p2
      rw [e] at p1
      exact ab (p1.symm.trans p2)
  · have hk := (mem_outL.mp hb).1.1
    rw [keys_imW] at hk
    rw [gl_imW hk]
    exact may _ (by rw [keys_imW]; exact img_nm hk)
theorem kF_imW : kF (fun x => D.str (imgF ms x)) (nmF ms) = kP D.str (imW ms) := by unfold kF kP imW; rw [List.map_map]; rfl
def shoF (ms : List Stp) : List Stp := scF (imW ms) (imA ms)
theorem lfP_ok {W : Wsh} (o : WOk W) (hs : IsScr ms) : ∀ (l : List Str) (f F : Wsh), (∀ x ∈ l, x ∈ keysS W) → (keysS f).Nodup → (∀ p ∈ f, IsLab p.1 ∧ IsLab p.2) → lfP ms W l f = some F → (keysS F).Nodup ∧ (∀ p ∈ F, IsLab p.1 ∧ IsLab p.2) ∧ F.length ≤ f.length + l.length
  | [], f, F, _, h2, h3, e => by cases e; exact ⟨h2, h3, Nat.le_refl _⟩
  | x :: l, f, F, h1, h2, h3, e => by
    have hx := h1 x List.mem_cons_self
    rw [lfP] at e
    split at e
    · cases e
    · have n1 : (keysS (putS f (imgF ms x) (gl W x))).Nodup := by rw [keys_putS]; exact nodup_uqF h2
      have n2 : ∀ p ∈ putS f (imgF ms x) (gl W x), IsLab p.1 ∧ IsLab p.2 := fun p hp => by
        unfold putS at hp
        split at hp
        · obtain ⟨q, hq, rfl⟩ := List.mem_map.mp hp
          split
          · rename_i z; exact ⟨(h3 q hq).1, o.goal hx⟩
          · exact h3 q hq
        · rcases List.mem_append.mp hp with hp | hp
          · exact h3 p hp
          · rw [List.mem_singleton.mp hp]; exact ⟨imgF_lab hs (o.key hx), o.goal hx⟩
      obtain ⟨r1, r2, r3⟩ := lfP_ok o hs l _ F (fun y hy => h1 y (List.mem_cons_of_mem _ hy)) n1 n2 e
      have := len_putS f (imgF ms x) (gl W x)
      exact ⟨r1, r2, by rw [List.length_cons]; omega⟩
theorem lfF_ok {W F : Wsh} (o : WOk W) (hs : IsScr ms) (e : lfF ms W = some F) : WOk F ∧ F.length ≤ W.length := by
  obtain ⟨r1, r2, r3⟩ := lfP_ok o hs _ [] F (fun x hx => mem_srtS.mp hx) List.nodup_nil (fun _ h => by cases h) e
  rw [List.length_nil, len_srtS, len_keysS, Nat.zero_add] at r3
  exact ⟨⟨r1, r2, Nat.le_trans r3 o.ln⟩, r3⟩
theorem shp_dW {W : Wsh} (o : WOk W) : ∀ p ∈ kP D.str W, shp p.2 = true := shp_kP fun p hp => shp_ly (n := 0) (o.lab p hp).2.ly
theorem eqDic_dW {W : Wsh} (o : WOk W) : eqDic (kP D.str W) (kP D.str W) = true := eqDic_self eqE_str o.nd
theorem ly_oN {n : Nat} {k : Option Nat} : ly n (oN k) := by
  cases k with
  | none => exact ly_non
  | some k => exact ly_int
theorem ly_hin {W : Wsh} {A : Alw} {n : Nat} (o : WOk W) : ly (n + 2) (dH (hinF W A)) := ly_dH (fun x e => hinF_goal o e) fun r e => (hinF_ring o e).1
theorem ly_rsn {W : Wsh} {A : Alw} (o : WOk W) : ly 3 (.tup [dS (mvF W), .lst ((lnF W A).map dS)]) := ly_pair (ly_dS (n := 1) fun x hx => o.key (mem_mvF.mp hx).1) (ly_map fun r hr => ly_dS (rgsF_lab o (mem_lnF.mp hr).1))
theorem vw_oN {k : Option Nat} {ss : SS} {f : D → Prop} : vw (.val (oN k)) ss f = f (oN k) := by cases k <;> rfl
theorem vw_dH {k : Hin} {ss : SS} {f : D → Prop} : vw (.val (dH k)) ss f = f (dH k) := by cases k <;> rfl
theorem neX_oN {k : Option Nat} {b : D} {P : Re → Prop} : kNeX (oN k) b P = kNe (oN k) b P := by cases k <;> exact x_neX fun ⟨_, _, e, _⟩ => by cases e
theorem neX_dH {k : Hin} {b : D} {P : Re → Prop} : kNeX (dH k) b P = kNe (dH k) b P := by cases k <;> exact x_neX fun ⟨_, _, e, _⟩ => by cases e
theorem eqX_oN {k : Option Nat} {b : D} {P : Re → Prop} : kEqX (oN k) b P = kEq (oN k) b P := by cases k <;> exact x_eqX fun ⟨_, _, e, _⟩ => by cases e
theorem eqX_dH {k : Hin} {b : D} {P : Re → Prop} : kEqX (dH k) b P = kEq (dH k) b P := by cases k <;> exact x_eqX fun ⟨_, _, e, _⟩ => by cases e
theorem isN_oN {k : Option Nat} : isNon (oN k) = k.isNone := by cases k <;> rfl
theorem noR_oN {k : Option Nat} : noRaw (oN k) = true := by cases k <;> rfl
theorem noR_dH {k : Hin} : noRaw (dH k) = true := by cases k <;> rfl
def unS : D → Str
  | .str x => x
  | _ => ""
theorem perm_strs {ys : List D} {l : List Str} (h : ys.Perm (l.map D.str)) : ∃ l2 : List Str, ys = l2.map D.str ∧ l2.Perm l := by
  refine ⟨ys.map unS, ?_, ?_⟩
  · rw [List.map_map]
    conv => lhs; rw [← List.map_id ys]
    refine List.map_congr_left fun d hd => ?_
    obtain ⟨x, _, rfl⟩ := List.mem_map.mp (h.mem_iff.mp hd)
    rfl
  · have := h.map unS
    rw [List.map_map] at this
    have e : l.map (unS ∘ D.str) = l := List.map_id l
    rw [e] at this
    exact this
end
end Vl
namespace Vl
open PySem PySem.Spec L2
open PyProof.Rows hiding St

/-! ### where cells come from -/
def srcF (ms : List Stp) (c : Str) : List Str := if c ∈ nmF ms then (nmF ms).filter fun x => decide (imgF ms x = c) else [c]
def srsF (ms : List Stp) (cs : List Str) : List (List Str) := cs.map (srcF ms)
def prodN (l : List Nat) : Nat := l.foldl (· * ·) 1
def nthGo : List (List Str) → Nat → List Str
  | [], _ => []
  | l :: r, n => l.getD (n % l.length) "" :: nthGo r (n / l.length)
def nthF (ms : List Stp) (cs : List Str) (n : Nat) : List Str := (nthGo (srsF ms cs).reverse n).reverse
def lensF (ms : List Stp) (cs : List Str) : List Nat := (srsF ms cs).map List.length
def sureF (ms : List Stp) (cs : List Str) : List Nat := if [] ∈ srsF ms cs then [] else (List.range (srsF ms cs).length).filter fun i => decide (((srsF ms cs).getD i []).length = 1)
section
variable {ms : List Stp} {cs : List Str} {c x : Str}
theorem srcF_lab (hs : IsScr ms) (hc : IsLab c) : Labs (srcF ms c) := fun x hx => by
  unfold srcF at hx
  split at hx
  · exact nmF_lab hs x (List.mem_filter.mp hx).1
  · rw [List.mem_singleton.mp hx]; exact hc
theorem len_srcF (ms : List Stp) (c : Str) : (srcF ms c).length ≤ 2 * ms.length + 1 := by
  unfold srcF
  split
  · have := List.length_filter_le (fun x => decide (imgF ms x = c)) (nmF ms)
    have := len_nmF ms
    omega
  · simp
theorem srsF_lab (hs : IsScr ms) (hc : Labs cs) : ∀ r ∈ srsF ms cs, Labs r := fun r hr => by
  obtain ⟨c, h, rfl⟩ := List.mem_map.mp hr
  exact srcF_lab hs (hc c h)
theorem len_srsF : (srsF ms cs).length = cs.length := List.length_map ..
theorem prod_zero : ∀ (l : List Nat) (a : Nat), 0 < l.foldl (· * ·) a → 0 < a ∧ ∀ n ∈ l, 0 < n
  | [], a, h => ⟨h, fun _ h => by cases h⟩
  | n :: l, a, h => by
    rw [List.foldl_cons] at h
    obtain ⟨h1, h2⟩ := prod_zero l (a * n) h
    refine ⟨Nat.pos_of_mul_pos_right h1, fun k hk => ?_⟩
    rcases List.mem_cons.mp hk with e | hk
    · rw [e]; exact Nat.pos_of_mul_pos_left h1
    · exact h2 k hk
theorem nthGo_lab : ∀ (l : List (List Str)) (n : Nat), (∀ r ∈ l, Labs r ∧ r ≠ []) → Labs (nthGo l n)
  | [], n, _ => fun _ h => by cases h
  | r :: l, n, h => fun x hx => by
    unfold nthGo at hx
    rcases List.mem_cons.mp hx with e | hx
    · rw [e]
      exact (h r List.mem_cons_self).1 _ (getD_mod (h r List.mem_cons_self).2)
    · exact nthGo_lab l _ (fun q hq => h q (List.mem_cons_of_mem _ hq)) x hx
theorem len_nthGo : ∀ (l : List (List Str)) (n : Nat), (nthGo l n).length = l.length
  | [], _ => rfl
  | r :: l, n => by unfold nthGo; rw [List.length_cons, List.length_cons, len_nthGo]
theorem nthGo_at {r : List (List Str)} : ∀ (pre : List (List Str)) (l : List (List Str)) (n : Nat), nthGo (pre ++ l) n = nthGo pre n ++ nthGo l (pre.foldl (fun n r => n / r.length) n)
  | [], _, _ => rfl
  | p :: pre, l, n => by
    rw [List.cons_append, nthGo, nthGo, nthGo_at (r := r) pre l, List.foldl_cons]; rfl
/-- the wish that leads back -/
def baW (ms : List Stp) (cs : List Str) : Wsh := putsS [] ((cs.map (imgF ms)).zip cs)
theorem baW_ok (hs : IsScr ms) (hc : Labs cs) (hl : cs.length ≤ 1000) : WOk (baW ms cs) ∧ (baW ms cs).length ≤ cs.length := by
  have h1 := len_putsS ((cs.map (imgF ms)).zip cs) []
  rw [List.length_nil, Nat.zero_add, List.length_zip, List.length_map, Nat.min_self] at h1
  have zl : ∀ p ∈ (cs.map (imgF ms)).zip cs, IsLab p.1 ∧ IsLab p.2 := fun p hp => by
    obtain ⟨a, b⟩ := List.of_mem_zip hp
    obtain ⟨y, hy, e⟩ := List.mem_map.mp a
    exact ⟨e ▸ imgF_lab hs (hc y hy), hc _ b⟩
  refine ⟨⟨nodup_putsS List.nodup_nil, fun p hp => ⟨?_, ?_⟩, Nat.le_trans h1 hl⟩, h1⟩
  · have hk : p.1 ∈ keysS (baW ms cs) := List.mem_map_of_mem hp
    unfold baW at hk
    rw [keys_putsS] at hk
    have : p.1 ∈ keysS ((cs.map (imgF ms)).zip cs) := by
      rcases (mem_uqL _ _).mp hk with h | h
      · cases h
      · exact h
    obtain ⟨q, hq, e⟩ := List.mem_map.mp this
    exact e ▸ (zl q hq).1
  · exact vals_putsS (Q := IsLab) (fun _ h => by cases h) (fun q hq => (zl q hq).2) p hp
end
end Vl
namespace Vl
open PySem PySem.Spec L2
open PyProof.Rows hiding St

/-! ### what is left of a wish -/
section
variable {ms : List Stp} {W F : Wsh} {x y v : Str} {l : List Str}
theorem getS_putS {f : Wsh} {a b : Str} {u : Str} : getS (putS f a u) b = if b = a then some u else getS f b := by
  induction f with
  | nil =>
    show getS [(a, u)] b = _
    unfold getS
    rw [List.find?_cons]
    by_cases q : b = a
    · rw [if_pos q, decide_eq_true q.symm]; rfl
    · rw [if_neg q, decide_eq_false fun z => q z.symm]
  | cons p f ih =>
    have split1 : ∀ (g : Wsh), getS (p :: g) b = if p.1 = b then some p.2 else getS g b := fun g => by
      unfold getS
      rw [List.find?_cons]
      by_cases q : p.1 = b
      · rw [if_pos q, decide_eq_true q]; rfl
      · rw [if_neg q, decide_eq_false q]
    by_cases pa : p.1 = a
    · have e : putS (p :: f) a u = (p.1, u) :: f.map fun p => if p.1 = a then (p.1, u) else p := by
        unfold putS
        rw [if_pos (by rw [List.any_cons, decide_eq_true pa]; rfl), List.map_cons, if_pos pa]
      rw [e]
      unfold getS
      rw [List.find?_cons]
      by_cases q : b = a
      · rw [if_pos q, decide_eq_true (show p.1 = b by rw [pa, q])]; rfl
      · have hb : ¬ p.1 = b := fun z => q (by rw [← z, pa])
        rw [if_neg q, decide_eq_false hb, List.find?_cons, decide_eq_false hb]
        show Option.map _ (List.find? _ (f.map _)) = Option.map _ (List.find? _ f)
        clear ih split1 e
        induction f with
        | nil => rfl
        | cons z f ih =>
          rw [List.map_cons, List.find?_cons, List.find?_cons]
          by_cases za : z.1 = a
          · have hz : ¬ z.1 = b := fun w => q (by rw [← w, za])
            rw [if_pos za]
            show Option.map _ (match decide (z.1 = b) with | true => _ | false => _) = _
            rw [decide_eq_false hz]
            exact ih
          · rw [if_neg za]
            cases decide (z.1 = b) with
            | true => rfl
            | false => exact ih
    · have e : putS (p :: f) a u = p :: putS f a u := by
        unfold putS
        rw [List.any_cons, decide_eq_false pa, Bool.false_or]
        split
        · rw [List.map_cons, if_neg pa]
        · rfl
      rw [e, split1, split1, ih]
      by_cases q : p.1 = b
      · rw [if_pos q, if_pos q, if_neg (fun z => pa (q.trans z))]
      · rw [if_neg q, if_neg q]
/-- the walk of left: what it finds, why it finds none -/
theorem lfP_some : ∀ (l : List Str) (f F : Wsh), lfP ms W l f = some F → (∀ x ∈ l, getS F (imgF ms x) = some (gl W x)) ∧ (∀ y v, getS f y = some v → getS F y = some v) ∧ ∀ y v, getS F y = some v → getS f y = some v ∨ ∃ x ∈ l, imgF ms x = y ∧ gl W x = v
  | [], f, F, e => by cases e; exact ⟨(fun _ h => by cases h), fun _ _ h => h, fun _ _ h => Or.inl h⟩
  | x :: l, f, F, e => by
    rw [lfP] at e
    split at e
    · cases e
    · rename_i c
      have c := Decidable.not_not.mp c
      obtain ⟨h1, h2, h3⟩ := lfP_some l _ F e
      have hx : getS F (imgF ms x) = some (gl W x) := h2 _ _ (by rw [getS_putS, if_pos rfl])
      refine ⟨fun y hy => ?_, fun y v hv => ?_, fun y v hv => ?_⟩
      · rcases List.mem_cons.mp hy with e | hy
        · rw [e]; exact hx
        · exact h1 y hy
      · by_cases q : y = imgF ms x
        · rw [q, hx]
          rw [q] at hv
          rw [hv] at c
          exact congrArg some c.symm
        · exact h2 y v (by rw [getS_putS, if_neg q]; exact hv)
      · rcases h3 y v hv with h | ⟨z, hz, e1, e2⟩
        · rw [getS_putS] at h
          by_cases q : y = imgF ms x
          · rw [if_pos q] at h
            exact .inr ⟨x, List.mem_cons_self, q.symm, Option.some.inj h⟩
          · rw [if_neg q] at h
            exact .inl h
        · exact .inr ⟨z, List.mem_cons_of_mem _ hz, e1, e2⟩
def Con (ms : List Stp) (W : Wsh) (l : List Str) : Prop := ∀ x ∈ l, ∀ y ∈ l, imgF ms x = imgF ms y → gl W x = gl W y
theorem lfP_con : ∀ (l : List Str) (f : Wsh), (∀ x ∈ l, ∀ v, getS f (imgF ms x) = some v → v = gl W x) → Con ms W l → ∃ F, lfP ms W l f = some F
  | [], f, _, _ => ⟨f, rfl⟩
  | x :: l, f, h, c => by
    rw [lfP, if_neg]
    · refine lfP_con l _ (fun y hy v hv => ?_) fun a ha b hb => c a (List.mem_cons_of_mem _ ha) b (List.mem_cons_of_mem _ hb)
      rw [getS_putS] at hv
      by_cases q : imgF ms y = imgF ms x
      · rw [if_pos q] at hv
        rw [← Option.some.inj hv]
        exact c x List.mem_cons_self y (List.mem_cons_of_mem _ hy) q.symm
      · rw [if_neg q] at hv
        exact h y (List.mem_cons_of_mem _ hy) v hv
    · intro z
      refine z ?_
      cases e : getS f (imgF ms x) with
      | none => rfl
      | some v => exact h x List.mem_cons_self v e
theorem lfP_iff (hl : ∀ x ∈ l, x ∈ keysS W) : (∃ F, lfP ms W l [] = some F) ↔ Con ms W l := by
  refine ⟨fun ⟨F, e⟩ x hx y hy q => ?_, fun c => lfP_con l [] (fun _ _ _ h => by cases h) c⟩
  obtain ⟨h1, _, _⟩ := lfP_some l [] F e
  have a := h1 x hx
  have b := h1 y hy
  rw [q, b] at a
  exact (Option.some.inj a).symm
/-- in whatever order -/
def lrF (ms : List Stp) (W : Wsh) : Option Wsh := lfP ms W (keysS W) []
def Sees (ms : List Stp) (W F : Wsh) : Prop := ∀ y v, getS F y = some v ↔ ∃ x ∈ keysS W, imgF ms x = y ∧ gl W x = v
theorem sees_of (hl : ∀ x, x ∈ l ↔ x ∈ keysS W) (e : lfP ms W l [] = some F) : Sees ms W F := fun y v => by
  obtain ⟨h1, _, h3⟩ := lfP_some l [] F e
  constructor
  · intro h
    rcases h3 y v h with h | ⟨x, hx, a, b⟩
    · cases h
    · exact ⟨x, (hl x).mp hx, a, b⟩
  · rintro ⟨x, hx, rfl, rfl⟩
    exact h1 x ((hl x).mpr hx)
theorem eqDic_sees {F G : Wsh} (oF : WOk F) (oG : WOk G) (h : ∀ y v, getS F y = some v ↔ getS G y = some v) : eqDic (kP D.str F) (kP D.str G) = true := by
  rw [eqDic_kP eqE_str, Bool.and_eq_true, beq_iff_eq, List.all_eq_true]
  have sub : ∀ {A B : Wsh}, (keysS A).Nodup → (∀ y v, getS A y = some v → getS B y = some v) → A.length ≤ B.length := fun {A B} nd hs => by
    rw [← len_keysS, ← len_keysS (l := B)]
    refine nodup_sub_len nd fun x hx => ?_
    have := hs x _ (getS_gl hx)
    apply Decidable.byContradiction
    intro hn
    rw [getS_none.mpr hn] at this
    cases this
  refine ⟨Nat.le_antisymm (sub oF.nd fun y v => (h y v).mp) (sub oG.nd fun y v => (h y v).mpr), fun p hp => decide_eq_true ?_⟩
  exact (h _ _).mp (getS_mem oF.nd hp)
theorem lf_con : (∃ F, lfF ms W = some F) ↔ Con ms W (keysS W) := by
  have := lfP_iff (ms := ms) (W := W) (l := srtS (keysS W)) fun x hx => mem_srtS.mp hx
  refine this.trans ⟨fun c x hx y hy => c x (mem_srtS.mpr hx) y (mem_srtS.mpr hy), fun c x hx y hy => c x (mem_srtS.mp hx) y (mem_srtS.mp hy)⟩
theorem lr_con : (∃ F, lrF ms W = some F) ↔ Con ms W (keysS W) := lfP_iff fun _ h => h
theorem lf_sees (e : lfF ms W = some F) : Sees ms W F := sees_of (fun x => mem_srtS) e
theorem lr_sees (e : lrF ms W = some F) : Sees ms W F := sees_of (fun x => Iff.rfl) e
theorem lrF_ok (o : WOk W) (hs : IsScr ms) (e : lrF ms W = some F) : WOk F ∧ F.length ≤ W.length := by
  obtain ⟨r1, r2, r3⟩ := lfP_ok o hs _ [] F (fun x hx => hx) List.nodup_nil (fun _ h => by cases h) e
  rw [List.length_nil, len_keysS, Nat.zero_add] at r3
  exact ⟨⟨r1, r2, Nat.le_trans r3 o.ln⟩, r3⟩
theorem lf_none_lr : lfF ms W = none ↔ lrF ms W = none := by
  rw [← Option.not_isSome_iff_eq_none, ← Option.not_isSome_iff_eq_none, Option.isSome_iff_exists, Option.isSome_iff_exists, lf_con, lr_con]
theorem sees_keys (s : Sees ms W F) {u : Str} : u ∈ keysS F ↔ ∃ x ∈ keysS W, imgF ms x = u := by
  constructor
  · intro h
    obtain ⟨x, hx, a, _⟩ := (s u _).mp (getS_gl h)
    exact ⟨x, hx, a⟩
  · rintro ⟨x, hx, rfl⟩
    have := (s (imgF ms x) (gl W x)).mpr ⟨x, hx, rfl, rfl⟩
    apply Decidable.byContradiction
    intro hn
    rw [getS_none.mpr hn] at this
    cases this
theorem sees_gl (s : Sees ms W F) (hx : x ∈ keysS W) : gl F (imgF ms x) = gl W x := by
  unfold gl
  rw [(s (imgF ms x) (gl W x)).mpr ⟨x, hx, rfl, rfl⟩]; rfl
/-! step by step -/
variable {a b : List Stp}
theorem con_app (s : Sees a W F) : Con b F (keysS F) ↔ Con (a ++ b) W (keysS W) := by
  constructor
  · intro c x hx y hy e
    rw [imgF_append, imgF_append] at e
    have := c _ ((sees_keys s).mpr ⟨x, hx, rfl⟩) _ ((sees_keys s).mpr ⟨y, hy, rfl⟩) e
    rw [sees_gl s hx, sees_gl s hy] at this
    exact this
  · intro c u hu v hv e
    obtain ⟨x, hx, rfl⟩ := (sees_keys s).mp hu
    obtain ⟨y, hy, rfl⟩ := (sees_keys s).mp hv
    rw [sees_gl s hx, sees_gl s hy]
    exact c x hx y hy (by rw [imgF_append, imgF_append]; exact e)
theorem sees_app {F2 : Wsh} (s : Sees a W F) (s2 : Sees b F F2) : Sees (a ++ b) W F2 := fun y v => by
  rw [s2 y v]
  constructor
  · rintro ⟨u, hu, e1, e2⟩
    obtain ⟨x, hx, rfl⟩ := (sees_keys s).mp hu
    exact ⟨x, hx, by rw [imgF_append]; exact e1, by rw [← sees_gl s hx]; exact e2⟩
  · rintro ⟨x, hx, e1, e2⟩
    exact ⟨imgF a x, (sees_keys s).mpr ⟨x, hx, rfl⟩, by rw [← imgF_append]; exact e1, by rw [sees_gl s hx]; exact e2⟩
theorem flF_iff : flF ms W = true ↔ ∀ x ∈ keysS W, imgF ms x = gl W x := by
  unfold flF
  rw [decide_eq_true_iff, List.filter_eq_nil_iff]
  exact ⟨fun h x hx => by have := h x hx; simpa using this, fun h x hx => by simp [h x hx]⟩
theorem fl_app (s : Sees a W F) : flF b F = flF (a ++ b) W := by
  rw [Bool.eq_iff_iff, flF_iff, flF_iff]
  constructor
  · intro h x hx
    rw [imgF_append, h _ ((sees_keys s).mpr ⟨x, hx, rfl⟩), sees_gl s hx]
  · intro h u hu
    obtain ⟨x, hx, rfl⟩ := (sees_keys s).mp hu
    rw [← imgF_append, h x hx, sees_gl s hx]
theorem no_app (h : lfF a W = none) : lrF (a ++ b) W = none ∧ flF (a ++ b) W = false := by
  have nc : ¬ Con a W (keysS W) := fun c => by
    obtain ⟨F, e⟩ := lf_con.mpr c
    rw [h] at e; cases e
  have nc2 : ¬ Con (a ++ b) W (keysS W) := fun c => nc fun x hx y hy e => c x hx y hy (by rw [imgF_append, imgF_append, e])
  refine ⟨?_, ?_⟩
  · rw [← Option.not_isSome_iff_eq_none, Option.isSome_iff_exists, lr_con]; exact nc2
  · rw [← Bool.not_eq_true, flF_iff]
    intro q
    exact nc2 fun x hx y hy e => by rw [← q x hx, ← q y hy, e]
end
end Vl
namespace Vl
open PySem PySem.Spec L2
open PyProof.Rows hiding St

/-! ### a list of one's own is read as a datum for a while, and stays one's own -/
def flat0 : D → Bool
  | .lst _ | .tup _ | .dic _ => false
  | _ => true
def flC : C → Bool
  | .lst xs => xs.all flat0
  | .dic kvs => kvs.all fun p => flat0 p.2
def ownFl : SV → Bool
  | .own c => flC c
  | _ => true
section
variable {B : Hp} {R : Addr → Prop} {w w' : Wd} {σ : L2.St} {H : Hp} {ss : SS}
theorem flat0_rep {d : D} {v : V} (h : flat0 d = true) (hc : w'.cs = w.cs) (r : Rep w d v) : Rep w' d v := by
  cases d with
  | lst _ => cases h
  | tup _ => cases h
  | dic _ => cases h
  | loc n => obtain ⟨a, e1, e2⟩ := r; exact ⟨a, e1, by rw [hc]; exact e2⟩
  | _ => exact r
theorem flat0_repL (hc : w'.cs = w.cs) : ∀ {ds : List D} {vs : List V}, ds.all flat0 = true → RepL w ds vs → RepL w' ds vs
  | [], _, _, h => h
  | d :: ds, _, h, ⟨v, us, e, h1, h2⟩ => by
    rw [List.all_cons, Bool.and_eq_true] at h
    exact ⟨v, us, e, flat0_rep h.1 hc h1, flat0_repL hc h.2 h2⟩
theorem flat0_repK (hc : w'.cs = w.cs) : ∀ {ds : List (Key × D)} {vs : List (Key × V)}, (ds.all fun p => flat0 p.2) = true → RepK w ds vs → RepK w' ds vs
  | [], _, _, h => h
  | (k, d) :: ds, _, h, ⟨v, us, e, h1, h2⟩ => by
    rw [List.all_cons, Bool.and_eq_true] at h
    exact ⟨v, us, e, flat0_rep h.1 hc h1, flat0_repK hc h.2 h2⟩
theorem flC_cel {c : C} {a : Addr} (h : flC c = true) (hc : w'.cs = w.cs) (x : Cel w H a c) : Cel w' H a c := by
  cases c with
  | lst xs => obtain ⟨vs, e, r⟩ := x; exact ⟨vs, e, flat0_repL hc h r⟩
  | dic kvs => obtain ⟨vs, e, r⟩ := x; exact ⟨vs, e, flat0_repK hc h r⟩
/-- frozen, and kept as it is -/
theorem lend (o : Ok B R w σ H ss) {i : Nat} {xs : List D} {vs : List V} (hi : ss.r[i]? = some (.own (.lst xs))) (hu : H (w.os i) = some (.lst vs)) (rl : RepL w xs vs) :
    Ok (upd B (w.os i) (.lst vs)) R (frzF w (w.os i) (.lst vs)) σ H { ss with r := ss.r.set i (.val (.lst xs)) } := by
  obtain ⟨h1, h2, h3, h4, h5, h6⟩ := o.ow i _ hi
  have ex := frzF.ext (u := HO.lst vs) h3
  have il : i < ss.r.length := (List.getElem?_eq_some_iff.mp hi).1
  have osn : ∀ j c, j ≠ i → ss.r[j]? = some (.own c) → w.os j ≠ w.os i := fun j c ne q z => ne (o.oi j i c _ q hi z)
  refine ⟨fun b x h => ?_, fun b x h => ?_, fun b r => ?_, fun j d q => ?_, fun j c q => ?_, fun j k c c' q q' e => ?_, fun n c q => ?_, o.cl, fun b m => ?_, o.cn, by show (ss.r.set i _).length = _; rw [List.length_set]; exact o.ln⟩
  · by_cases z : b = w.os i
    · subst z
      have h : upd w.F (w.os i) (.lst vs) (w.os i) = some x := h
      rw [upd_same] at h; cases h; exact .inl hu
    · have h : upd w.F (w.os i) (.lst vs) b = some x := h
      rw [upd_ne z] at h; exact o.le b x h
  · by_cases z : b = w.os i
    · subst z; rw [upd_same] at h; cases h; exact hu
    · rw [upd_ne z] at h; exact o.bs b x h
  · obtain ⟨a1, a2, a3⟩ := o.rs b r
    exact ⟨by show upd w.F (w.os i) _ b = none; rw [upd_ne (fun z : b = w.os i => h5 (z ▸ r))]; exact a1, a2, a3⟩
  · rcases set_get q with ⟨z, q1, _⟩ | ⟨_, q1⟩
    · cases q1
      rw [z]
      exact ⟨_, h1, _, vs, rfl, upd_same, rl.ext ex⟩
    · obtain ⟨v, v1, v2⟩ := o.vl j d q1
      exact ⟨v, v1, v2.ext ex⟩
  · rcases set_get q with ⟨_, q1, _⟩ | ⟨ne, q1⟩
    · cases q1
    · obtain ⟨a1, a2, a3, a4, a5, a6⟩ := o.ow j c q1
      have nq := osn j c ne q1
      exact ⟨a1, a2.ext ex rfl, by show upd w.F (w.os i) _ (w.os j) = none; rw [upd_ne nq]; exact a3, by show upd B (w.os i) _ (w.os j) = none; rw [upd_ne nq]; exact a4, a5, a6⟩
  · rcases set_get q with ⟨_, q1, _⟩ | ⟨_, q1⟩
    · cases q1
    · rcases set_get q' with ⟨_, q2, _⟩ | ⟨_, q2⟩
      · cases q2
      · exact o.oi j k c c' q1 q2 e
  · obtain ⟨b, b1, b2⟩ := o.ce n c q
    exact ⟨b, b1, b2.ext ex rfl⟩
  · obtain ⟨b1, b2⟩ := o.cf b m
    have nb : b ≠ w.os i := fun z => h6 (z ▸ m)
    exact ⟨by show upd w.F (w.os i) _ b = none; rw [upd_ne nb]; exact b1, by rw [upd_ne nb]; exact b2⟩
noncomputable def thawW (w w2 : Wd) (a : Addr) : Wd := { F := fun b => if b = a then none else w2.F b, cs := w2.cs, os := w.os }
/-- .. and taken back -/
theorem thaw (o : Ok B R w σ H ss) {i : Nat} {xs : List D} {vs : List V} (hi : ss.r[i]? = some (.own (.lst xs))) (rl : RepL w xs vs) {w2 : Wd} {H2 : Hp} {S2 : List C}
    (o2 : Ok (upd B (w.os i) (.lst vs)) R w2 σ H2 { r := ss.r.set i (.val (.lst xs)), S := S2 }) (ex : Ext (frzF w (w.os i) (.lst vs)) w2) (hS : S2.all flC = true) (ho : (ss.r.set i .no).all ownFl = true) :
    Ok B R (thawW w w2 (w.os i)) σ H2 { r := ss.r, S := S2 } ∧ Ext w (thawW w w2 (w.os i)) := by
  obtain ⟨h1, h2, h3, h4, h5, h6⟩ := o.ow i _ hi
  have il : i < ss.r.length := (List.getElem?_eq_some_iff.mp hi).1
  have Fa : w2.F (w.os i) = some (.lst vs) := ex.F _ _ upd_same
  have tF : ∀ b, b ≠ w.os i → (thawW w w2 (w.os i)).F b = w2.F b := fun b nb => if_neg nb
  have tA : (thawW w w2 (w.os i)).F (w.os i) = none := if_pos rfl
  have none_of : ∀ b, w2.F b = none → (thawW w w2 (w.os i)).F b = none := fun b hb => by
    by_cases z : b = w.os i
    · rw [z]; exact tA
    · rw [tF b z]; exact hb
  have e3 : Ext w (thawW w w2 (w.os i)) := ⟨fun b u hb => by
    have nb : b ≠ w.os i := fun z => by rw [z, h3] at hb; cases hb
    rw [tF b nb]
    exact ex.F b u (by show upd w.F (w.os i) _ b = some u; rw [upd_ne nb]; exact hb), fun n b hb => ex.cs n b hb⟩
  have osj : ∀ j c, j ≠ i → ss.r[j]? = some (.own c) → w2.os j = w.os j ∧ Cel w2 H2 (w.os j) c ∧ w2.F (w.os j) = none ∧ B (w.os j) = none ∧ ¬ R (w.os j) ∧ w.os j ∉ w2.cs := fun j c ne q => by
    obtain ⟨b1, b2, b3, b4, b5, b6⟩ := o2.ow j c (by show (ss.r.set i _)[j]? = _; rw [List.getElem?_set_ne (fun z => ne z.symm)]; exact q)
    obtain ⟨a1, _, _, a4, _, _⟩ := o.ow j c q
    rw [a1] at b1
    have eo : w.os j = w2.os j := V.ref.inj (Option.some.inj (Option.some.inj b1))
    rw [← eo] at b2 b3 b5 b6
    exact ⟨eo.symm, b2, b3, a4, b5, b6⟩
  have osn : ∀ j c, j ≠ i → ss.r[j]? = some (.own c) → w.os j ≠ w.os i := fun j c ne q z => ne (o.oi j i c _ q hi z)
  have fl : ∀ j c, j ≠ i → ss.r[j]? = some (.own c) → flC c = true := fun j c ne q => by
    have : (SV.own c) ∈ ss.r.set i .no := List.mem_of_getElem? (i := j) (by rw [List.getElem?_set_ne (fun z => ne z.symm)]; exact q)
    exact List.all_eq_true.mp ho _ this
  have ca : w.os i ∉ w2.cs := fun m => by have := (o2.cf _ m).1; rw [Fa] at this; cases this
  refine ⟨?_, e3⟩
  · refine ⟨fun b x h => ?_, fun b x h => ?_, fun b r => ?_, fun j d q => ?_, fun j c q => ?_, fun j k c c' q q' e => o.oi j k c c' q q' e, fun n c q => ?_, o2.cl, fun b m => ?_, o2.cn, o.ln⟩
    · have nb : b ≠ w.os i := fun z => by rw [z] at h; rw [tA] at h; cases h
      exact o2.le b x (by rw [← tF b nb]; exact h)
    · exact o2.bs b x (by rw [upd_ne (fun z : b = w.os i => by rw [z, h4] at h; cases h)]; exact h)
    · obtain ⟨a1, a2, a3⟩ := o2.rs b r
      exact ⟨none_of b a1, a2, a3⟩
    · obtain ⟨v, v1, v2⟩ := o.vl j d q
      exact ⟨v, v1, v2.ext e3⟩
    · by_cases ne : j = i
      · subst ne
        rw [hi] at q; cases q
        exact ⟨h1, ⟨vs, o2.bs _ _ upd_same, rl.ext e3⟩, tA, h4, h5, ca⟩
      · obtain ⟨g1, g2, g3, g4, g5, g6⟩ := osj j c ne q
        obtain ⟨a1, _⟩ := o.ow j c q
        exact ⟨a1, flC_cel (w := w2) (fl j c ne q) rfl g2, none_of _ g3, g4, g5, g6⟩
    · obtain ⟨b, b1, b2⟩ := o2.ce n c q
      exact ⟨b, b1, flC_cel (w := w2) (List.all_eq_true.mp hS _ (List.mem_of_getElem? q)) rfl b2⟩
    · obtain ⟨b1, b2⟩ := o2.cf b m
      exact ⟨none_of b b1, by rw [upd_ne (fun z : b = w.os i => ca (z ▸ m))] at b2; exact b2⟩
end
section
variable {X : Cx} {e : Expr} {f : WE}
def pkO (i : Nat) (f : WE) (x : Option SV) (ss : SS) (G : Re → SS → Prop) : Prop := match x with
  | some (.own (.lst xs)) => f { ss with r := ss.r.set i (.val (.lst xs)) } fun r s => ∃ d, r = .val d ∧ flat0 d = true ∧ s.r = ss.r.set i (.val (.lst xs)) ∧ s.S.all flC = true ∧ (ss.r.set i .no).all ownFl = true ∧ G (.val d) { r := ss.r, S := s.S }
  | _ => False
def fPk (i : Nat) (f : WE) : WE := fun ss G => pkO i f ss.r[i]? ss G
theorem de_peek (i : Nat) (h : DE X e f) : DE X e (fPk i f) := by
  obtain ⟨t, p, hf⟩ := h
  refine ⟨t, p, fun B R w σ H ss G Q o hw hq => ?_⟩
  unfold fPk pkO at hw
  split at hw
  · rename_i xs ei
    obtain ⟨h1, ⟨vs, hl, rl⟩, h3, h4, h5, h6⟩ := o.ow i _ ei
    refine hf _ R _ σ H _ _ Q (lend o ei hl rl) hw fun v H2 r s2 w2 o2 r2 e2 ⟨d, er, fd, es, fS, fo, g⟩ => ?_
    obtain ⟨r2', S2⟩ := s2
    have es : r2' = ss.r.set i (.val (.lst xs)) := es
    subst es
    subst er
    obtain ⟨o3, e3⟩ := thaw o ei rl o2 e2 fS fo
    exact hq v H2 (.val d) _ _ o3 (flat0_rep (w := w2) fd rfl r2) e3 g
  · exact hw.elim
theorem x_pkO {i : Nat} {xs : List D} {ss : SS} {G : Re → SS → Prop} : pkO i f (some (.own (.lst xs))) ss G = f { ss with r := ss.r.set i (.val (.lst xs)) } fun r s => ∃ d, r = .val d ∧ flat0 d = true ∧ s.r = ss.r.set i (.val (.lst xs)) ∧ s.S.all flC = true ∧ (ss.r.set i .no).all ownFl = true ∧ G (.val d) { r := ss.r, S := s.S } := propext Iff.rfl
end
end Vl
namespace Vl
open PySem PySem.Spec L2
open PyProof.Rows hiding St

/-! ### items sorted, shown; wishes compared -/
theorem dSt_toPy (p : Str × Str) : toPy (dSt p) = .tuple [.str p.1, .str p.2] := rfl
theorem srtOk_dSt (l : List (Str × Str)) : srtOk (l.map dSt) := by
  refine ⟨fun d hd d' hd' => ?_, .inl fun d hd => ?_, ?_, fun d hd => ?_⟩
  · rw [List.map_map] at hd hd'
    obtain ⟨x, _, rfl⟩ := List.mem_map.mp hd
    obtain ⟨y, _, rfl⟩ := List.mem_map.mp hd'
    show PySem.W.alike (.tuple [.str x.1, .str x.2]) (.tuple [.str y.1, .str y.2]) = true
    simp [PySem.W.alike, PySem.W.alikeAll]
  · rw [List.map_map] at hd
    obtain ⟨x, _, rfl⟩ := List.mem_map.mp hd
    exact ⟨_, _, dSt_toPy x⟩
  · rw [List.all_map]
    exact List.all_eq_true.mpr fun x _ => rfl
  · obtain ⟨x, _, rfl⟩ := List.mem_map.mp hd
    show PyData.depth (.tuple [.str x.1, .str x.2]) ≤ 60
    have : PyData.depth (.tuple [.str x.1, .str x.2]) = 1 := rfl
    omega
theorem items_kP (W : Wsh) : (kP D.str W).map itD = W.map dSt := by unfold kP; rw [List.map_map]; rfl
theorem shk_dSt {p : Str × Str} (h : IsLab p.1 ∧ IsLab p.2) : Shk 1 811 (dSt p) := (shk_tup (n := 0) (m := 402) (k := 2) (fun d hd => by
  rcases List.mem_cons.mp hd with e | hd
  · rw [e]; exact shk_str h.1
  · rw [List.mem_singleton.mp hd]; exact shk_str h.2) (by simp)).mono (by decide) (by decide)
theorem shk_dM {ms : List Stp} (hs : IsScr ms) (hl : ms.length ≤ 2000) : Shk 2 1700000 (dM ms) := (shk_lst (n := 1) (m := 811) (k := 2000) (fun d hd => by
  obtain ⟨m, hm, rfl⟩ := List.mem_map.mp hd
  exact shk_dSt (hs m hm)) (by rw [List.length_map]; exact hl)).mono (by decide) (by decide)
theorem srtD_mem {l : List D} {d : D} : d ∈ srtD false l ↔ d ∈ l := (List.mergeSort_perm l _).mem_iff
theorem srtD_len (l : List D) : (srtD false l).length = l.length := (List.mergeSort_perm l _).length_eq
theorem shk_items {W : Wsh} (o : WOk W) : Shk 2 1700000 (.lst (srtD false (W.map dSt))) := (shk_lst (n := 1) (m := 811) (k := 2000) (fun d hd => by
  obtain ⟨m, hm, rfl⟩ := List.mem_map.mp (srtD_mem.mp hd)
  exact shk_dSt (o.lab m hm)) (by rw [srtD_len, List.length_map]; have := o.ln; omega)).mono (by decide) (by decide)
theorem show_mw {ms : List Stp} {W : Wsh} (hs : IsScr ms) (hl : ms.length ≤ 2000) (o : WOk W) : showOk (.lst [dM ms, .lst (srtD false (W.map dSt))]) := (shk_lst (n := 2) (m := 1700000) (k := 2) (fun d hd => by
  rcases List.mem_cons.mp hd with e | hd
  · rw [e]; exact shk_dM hs hl
  · rw [List.mem_singleton.mp hd]; exact shk_items o) (by simp)).ok
theorem show_bl {b : Bool} : showOk (.bl b) := shk_bl.ok
/-! a wish or none -/
def oD : Option Wsh → D
  | none => .non
  | some W => dW W
def SameW : Option Wsh → Option Wsh → Prop
  | none, none => True
  | some F, some G => WOk F ∧ WOk G ∧ ∀ y v, getS F y = some v ↔ getS G y = some v
  | _, _ => False
section
variable {r r' : Option Wsh} {ss : SS} {P : Re → Prop} {k : D → SS → Prop} {kd : D → Prop}
theorem vw_oW : vw (oW r) ss kd = kd (oD r) := by cases r <;> rfl
theorem fz_oW : fz (oW r) ss k = k (oD r) ss := by cases r <;> rfl
theorem vw_oD : vw (.val (oD r)) ss kd = kd (oD r) := by cases r <;> rfl
theorem isN_oD : isNon (oD r) = r.isNone := by cases r <;> rfl
theorem noR_oD : noRaw (oD r) = true := by cases r <;> rfl
theorem neX_same (h : SameW r r') (p : P (.val (.bl false))) : kNeX (oD r) (oD r') P := by
  cases r <;> cases r'
  · show kNeX .non .non P
    rw [x_neX_n]
    exact ⟨.inl rfl, p⟩
  · exact h.elim
  · exact h.elim
  · rename_i F G
    obtain ⟨h1, h2, h3⟩ := h
    show kNeX (dW F) (dW G) P
    rw [x_neX_d, eqDic_sees h1 h2 h3]
    exact ⟨shp_dW h1, shp_dW h2, p⟩
theorem eqX_same (h : SameW r r') (p : P (.val (.bl true))) : kEqX (oD r) (oD r') P := by
  cases r <;> cases r'
  · show kEqX .non .non P
    rw [x_eqX_n]
    exact ⟨.inl rfl, p⟩
  · exact h.elim
  · exact h.elim
  · rename_i F G
    obtain ⟨h1, h2, h3⟩ := h
    show kEqX (dW F) (dW G) P
    rw [x_eqX_d, eqDic_sees h1 h2 h3]
    exact ⟨shp_dW h1, shp_dW h2, p⟩
variable {ms a b : List Stp} {W F : Wsh}
theorem same_lf_lr (o : WOk W) (hs : IsScr ms) : SameW (lfF ms W) (lrF ms W) := by
  cases e : lfF ms W with
  | none => rw [lf_none_lr.mp e]; trivial
  | some F =>
    cases e2 : lrF ms W with
    | none => rw [lf_none_lr.mpr e2] at e; cases e
    | some G => exact ⟨(lfF_ok o hs e).1, (lrF_ok o hs e2).1, fun y v => (lf_sees e y v).trans (lr_sees e2 y v).symm⟩
theorem same_app (o : WOk W) (ha : IsScr a) (hb : IsScr b) (hab : IsScr (a ++ b)) (e : lfF a W = some F) : SameW (lfF b F) (lrF (a ++ b) W) := by
  have s := lf_sees e
  have oF := (lfF_ok o ha e).1
  cases e1 : lfF b F with
  | none =>
    have : lrF (a ++ b) W = none := by
      rw [← Option.not_isSome_iff_eq_none, Option.isSome_iff_exists, lr_con, ← con_app s, ← lf_con, ← Option.isSome_iff_exists, e1]
      exact Bool.false_ne_true
    rw [this]; trivial
  | some F2 =>
    cases e2 : lrF (a ++ b) W with
    | none =>
      have : ∃ G, lrF (a ++ b) W = some G := lr_con.mpr ((con_app s).mp (lf_con.mp ⟨F2, e1⟩))
      obtain ⟨G, hG⟩ := this
      rw [e2] at hG; cases hG
    | some G => exact ⟨(lfF_ok oF hb e1).1, (lrF_ok o hab e2).1, fun y v => (sees_app s (lf_sees e1) y v).trans (lr_sees e2 y v).symm⟩
theorem scF_len {A : Alw} (o : WOk W) (oA : AOk A) (hW : W.length ≤ 60) (h : OutOk W A (scP W A).2 (outL W)) : (scF W A).length ≤ (1 + W.length) * ((W.length + 1) * (W.length + 3)) + W.length * (1 + W.length * (W.length + 2)) := by
  have s := (scP_st o oA hW (rgsF W) fun _ h => h).len
  have h1 := len_rgsF W
  have h2 := len_outL W
  have h3 := outGo_len (outL W).length (ms := []) o h
  unfold scF outF
  rw [List.length_append]
  have a1 : (1 + (rgsF W).length) * ((W.length + 1) * (W.length + 3)) ≤ (1 + W.length) * ((W.length + 1) * (W.length + 3)) := Nat.mul_le_mul_right _ (by omega)
  have a3 : (outL W).length * (1 + W.length * (W.length + 2)) ≤ W.length * (1 + W.length * (W.length + 2)) := Nat.mul_le_mul_right _ h2
  have e : (scP W A).1.length ≤ (1 + (rgsF W).length) * ((W.length + 1) * (W.length + 3)) := s
  rw [List.length_nil] at h3
  omega
theorem hin_none : hinF W none = .no := by
  have e : badF W none = [] := by
    unfold badF
    have : ((mvF W).filter fun x => !mayF none (gl W x)) = [] := by
      rw [List.filter_eq_nil_iff]
      intro x _ h
      exact Bool.false_ne_true h
    rw [this, List.map_nil, srtC_eq]; rfl
  unfold hinF
  rw [e]
  split
  · rename_i h; cases h
  · split
    · rfl
    · rfl
end
end Vl
namespace Vl
open PySem PySem.Spec L2
open PyProof.Rows hiding St

/-! ### counts of rows -/
abbrev Rws := List (Str × Int)
abbrev dR (R : Rws) : D := .dic (kP D.int R)
def vR (R : Rws) (x : Str) : Int := (getS R x).getD 0
structure ROk (W : Wsh) (R : Rws) : Prop where
  nd : (keysS R).Nodup
  lab : ∀ p ∈ R, IsLab p.1
  pos : ∀ p ∈ R, 1 ≤ p.2
  big : ∀ p ∈ R, p.2 ≤ 10 ^ 40
  has : ∀ x ∈ keysS W, x ∈ keysS R
  ln : R.length ≤ 1000
def payF : List Stp → Str → Int → Int
  | [], _, _ => 0
  | (a, b) :: ms, c, r => if c = a ∧ a ≠ b then r + payF ms b r else payF ms c r
def paysF (ms : List Stp) (R : Rws) : List Str → Int
  | [] => 0
  | x :: xs => payF ms x (vR R x) + paysF ms R xs
def paidF (ms : List Stp) (W : Wsh) (R : Rws) : Int := paysF ms R (keysS W)
def dropS (R : Rws) (x : Str) : Rws := R.filter fun p => !decide (p.1 = x)
def rchGo : List Stp → Rws → Int → Int
  | [], _, t => t
  | (a, b) :: ms, R, t => if a ≠ b ∧ a ∈ keysS R then rchGo ms (putS (dropS R a) b (vR (dropS R a) b + vR R a)) (t + vR R a) else rchGo ms R t
def ofW (W : Wsh) (R : Rws) : Rws := (keysS W).map fun x => (x, vR R x)
section
variable {W : Wsh} {R R' : Rws} {x y : Str} {β : Type}
theorem getS_vR (h : x ∈ keysS R) : getS R x = some (vR R x) := by
  unfold vR
  cases q : getS R x with
  | none => exact absurd h (getS_none.mp q)
  | some v => rfl
theorem val_vR (h : x ∈ keysS R) : valD (kP D.int R) (.inr x) = some (.int (vR R x)) := by rw [valD_kP, getS_vR h]; rfl
theorem vR_mem (h : x ∈ keysS R) : (x, vR R x) ∈ R := getS_some (getS_vR h)
theorem vR_out (h : x ∉ keysS R) : vR R x = 0 := by unfold vR; rw [getS_none.mpr h]; rfl
theorem getS_put (l : List (Str × β)) (x : Str) (v : β) (y : Str) : getS (putS l x v) y = if y = x then some v else getS l y := by
  have hit : ∀ l : List (Str × β), (l.any fun p => decide (p.1 = x)) = true → getS (l.map fun p => if p.1 = x then (p.1, v) else p) x = some v := fun l => by
    induction l with
    | nil => intro h; cases h
    | cons p l ih =>
      intro h
      unfold getS at ih ⊢
      rw [List.map_cons, List.find?_cons]
      by_cases q : p.1 = x
      · rw [if_pos q]
        simp only [decide_eq_true q]; rfl
      · rw [if_neg q]
        simp only [decide_eq_false q]
        rw [List.any_cons, decide_eq_false q, Bool.false_or] at h
        exact ih h
  have mis : ∀ l : List (Str × β), y ≠ x → getS (l.map fun p => if p.1 = x then (p.1, v) else p) y = getS l y := fun l hy => by
    induction l with
    | nil => rfl
    | cons p l ih =>
      unfold getS at ih ⊢
      rw [List.map_cons, List.find?_cons, List.find?_cons]
      by_cases q : p.1 = x
      · have e1 : decide (p.1 = y) = false := decide_eq_false fun e => hy (e.symm.trans q)
        rw [if_pos q]
        simp only [e1]; exact ih
      · rw [if_neg q]
        by_cases qy : p.1 = y
        · simp only [decide_eq_true qy]
        · simp only [decide_eq_false qy]; exact ih
  unfold putS
  by_cases h : (l.any fun p => decide (p.1 = x)) = true
  · rw [if_pos h]
    by_cases q : y = x
    · rw [if_pos q, q]; exact hit l h
    · rw [if_neg q]; exact mis l q
  · rw [if_neg h]
    have hx : ∀ p ∈ l, ¬ p.1 = x := fun p hp e => h (List.any_eq_true.mpr ⟨p, hp, decide_eq_true e⟩)
    unfold getS
    rw [List.find?_append]
    by_cases qy : y = x
    · rw [if_pos qy, qy]
      have : l.find? (fun p => decide (p.1 = x)) = none := List.find?_eq_none.mpr fun p hp => by
        rw [decide_eq_false (hx p hp)]; decide
      rw [this, List.find?_cons]
      simp
    · rw [if_neg qy]
      have : [(x, v)].find? (fun p => decide (p.1 = y)) = none := by
        rw [List.find?_cons]
        simp only [decide_eq_false (fun e : x = y => qy e.symm)]; rfl
      rw [this, Option.or_none]
theorem keys_put (l : List (Str × β)) (x : Str) (v : β) (y : Str) : y ∈ keysS (putS l x v) ↔ y = x ∨ y ∈ keysS l := by
  rw [← Decidable.not_iff_not, ← getS_none, getS_put]
  by_cases q : y = x
  · rw [if_pos q]; simp [q]
  · rw [if_neg q, getS_none]; simp [q]
theorem getS_dropS : getS (dropS R x) y = if y = x then none else getS R y := by
  induction R with
  | nil => unfold getS dropS; split <;> rfl
  | cons p R ih =>
    unfold getS dropS at ih ⊢
    rw [List.filter_cons]
    by_cases e : p.1 = x
    · rw [decide_eq_true e, if_neg (by decide), ih]
      by_cases q : y = x
      · rw [if_pos q, if_pos q]
      · rw [if_neg q, if_neg q, List.find?_cons, decide_eq_false (fun z => q (z.symm.trans e))]
    · rw [decide_eq_false e, if_pos (by decide), List.find?_cons, List.find?_cons]
      by_cases q : p.1 = y
      · simp only [decide_eq_true q]
        rw [if_neg (fun z => e (q.trans z))]
      · simp only [decide_eq_false q]
        exact ih
theorem vR_put (v : Int) : vR (putS R x v) y = if y = x then v else vR R y := by
  unfold vR
  rw [getS_put]
  split <;> rfl
theorem vR_drop : vR (dropS R x) y = if y = x then 0 else vR R y := by
  unfold vR
  rw [getS_dropS]
  split <;> rfl
theorem in_drop : y ∈ keysS (dropS R x) ↔ y ≠ x ∧ y ∈ keysS R := by
  rw [← Decidable.not_iff_not, ← getS_none, getS_dropS]
  by_cases q : y = x
  · rw [if_pos q]; simp [q]
  · rw [if_neg q, getS_none]; simp [q]
/-- the rows that stand as one label -/
def sumAt (R : Rws) (cur : Str → Str) (y : Str) : List Str → Int
  | [] => 0
  | x :: xs => (if cur x = y then vR R x else 0) + sumAt R cur y xs
def sumP (ms : List Stp) (R : Rws) (cur : Str → Str) : List Str → Int
  | [] => 0
  | x :: xs => payF ms (cur x) (vR R x) + sumP ms R cur xs
theorem sumAt_none {cur : Str → Str} : ∀ {xs : List Str}, (∀ x ∈ xs, cur x ≠ y) → sumAt R cur y xs = 0
  | [], _ => rfl
  | x :: xs, h => by
    rw [sumAt, if_neg (h x List.mem_cons_self), sumAt_none fun z hz => h z (List.mem_cons_of_mem _ hz)]; rfl
theorem sumP_same {cur : Str → Str} {a b : Str} {ms : List Stp} : ∀ {xs : List Str}, (∀ x ∈ xs, ¬ (cur x = a ∧ a ≠ b)) → sumP ((a, b) :: ms) R cur xs = sumP ms R cur xs
  | [], _ => rfl
  | x :: xs, h => by
    rw [sumP, sumP, payF, if_neg (h x List.mem_cons_self), sumP_same fun z hz => h z (List.mem_cons_of_mem _ hz)]
def mvd (cur : Str → Str) (a b : Str) : Str → Str := fun x => if cur x = a then b else cur x
theorem sumP_step {cur : Str → Str} {a b : Str} {ms : List Stp} (hab : a ≠ b) : ∀ {xs : List Str}, sumP ((a, b) :: ms) R cur xs = sumAt R cur a xs + sumP ms R (mvd cur a b) xs
  | [] => rfl
  | x :: xs => by
    rw [sumP, sumP, sumAt, payF, sumP_step hab]
    unfold mvd
    by_cases q : cur x = a
    · rw [if_pos ⟨q, hab⟩, if_pos q, if_pos q]; omega
    · rw [if_neg (fun z => q z.1), if_neg q, if_neg q]; omega
theorem sumAt_mvd {R : Rws} {y : Str} {cur : Str → Str} {a b : Str} (hab : a ≠ b) : ∀ {xs : List Str}, sumAt R (mvd cur a b) y xs = if y = a then 0 else if y = b then sumAt R cur b xs + sumAt R cur a xs else sumAt R cur y xs
  | [] => by unfold sumAt; split <;> (try split) <;> rfl
  | x :: xs => by
    have ih := sumAt_mvd (R := R) (y := y) (cur := cur) hab (xs := xs)
    rw [sumAt, ih]
    unfold mvd
    by_cases qa : y = a
    · rw [if_pos qa, if_pos qa, qa]
      by_cases q : cur x = a
      · rw [if_pos q, if_neg (Ne.symm hab)]; rfl
      · rw [if_neg q, if_neg q]; rfl
    · rw [if_neg qa, if_neg qa]
      by_cases qb : y = b
      · rw [if_pos qb, if_pos qb, sumAt, sumAt, qb]
        by_cases q : cur x = a
        · rw [if_pos q, if_pos rfl, if_neg (fun e => hab (q.symm.trans e)), if_pos q]; omega
        · rw [if_neg q, if_neg q]; omega
      · rw [if_neg qb, if_neg qb, sumAt]
        by_cases q : cur x = a
        · rw [if_pos q, if_neg (Ne.symm qb), if_neg (fun e => qa (e.symm.trans q))]
        · rw [if_neg q]
theorem rchGo_eq (xs : List Str) : ∀ (ms : List Stp) (cur : Str → Str) (rows : Rws) (t : Int), (∀ y, vR rows y = sumAt R cur y xs) → (∀ y, y ∈ keysS rows ↔ ∃ x ∈ xs, cur x = y) → rchGo ms rows t = t + sumP ms R cur xs
  | [], cur, rows, t, h1, h2 => by
    have : ∀ xs : List Str, sumP [] R cur xs = 0 := fun xs => by
      induction xs with
      | nil => rfl
      | cons x xs ih => rw [sumP, payF, ih]; rfl
    rw [this, rchGo]; omega
  | (a, b) :: ms, cur, rows, t, h1, h2 => by
    rw [rchGo]
    by_cases q : a ≠ b ∧ a ∈ keysS rows
    · obtain ⟨hab, hin⟩ := q
      rw [if_pos ⟨hab, hin⟩, sumP_step hab, rchGo_eq xs ms (mvd cur a b)]
      · rw [h1]; omega
      · intro y
        rw [vR_put, sumAt_mvd hab, vR_drop, vR_drop, if_neg (Ne.symm hab), h1, h1, h1]
        by_cases qb : y = b
        · rw [if_pos qb, if_pos qb, if_neg (fun e => hab (e.symm.trans qb))]
        · rw [if_neg qb, if_neg qb]
      · intro y
        rw [keys_put, in_drop]
        unfold mvd
        constructor
        · rintro (rfl | ⟨n, hy⟩)
          · obtain ⟨x, hx, e⟩ := (h2 a).mp hin
            exact ⟨x, hx, by rw [if_pos e]⟩
          · obtain ⟨x, hx, e⟩ := (h2 y).mp hy
            exact ⟨x, hx, by rw [if_neg (fun z => n (e.symm.trans z))]; exact e⟩
        · rintro ⟨x, hx, e⟩
          by_cases q : cur x = a
          · rw [if_pos q] at e; exact .inl e.symm
          · rw [if_neg q] at e
            exact .inr ⟨fun z => q (e.trans z), (h2 y).mpr ⟨x, hx, e⟩⟩
    · rw [if_neg q, sumP_same, rchGo_eq xs ms cur rows t h1 h2]
      rintro x hx ⟨e, hab⟩
      exact q ⟨hab, (h2 a).mpr ⟨x, hx, e⟩⟩
theorem keys_ofW : keysS (ofW W R) = keysS W := by unfold ofW keysS; rw [List.map_map]; exact List.map_id _
theorem sumAt_id : ∀ {xs : List Str}, xs.Nodup → sumAt R (fun x => x) y xs = if y ∈ xs then vR R y else 0
  | [], _ => by rw [sumAt, if_neg (by simp)]
  | x :: xs, nd => by
    obtain ⟨n1, n2⟩ := List.nodup_cons.mp nd
    rw [sumAt, sumAt_id n2]
    by_cases q : x = y
    · subst q
      rw [if_pos rfl, if_neg n1, if_pos List.mem_cons_self]; omega
    · rw [if_neg q]
      by_cases qy : y ∈ xs
      · rw [if_pos qy, if_pos (List.mem_cons_of_mem _ qy)]; omega
      · rw [if_neg qy, if_neg (by
          intro z
          rcases List.mem_cons.mp z with e | z
          · exact q e.symm
          · exact qy z)]; rfl
theorem sumP_id {ms : List Stp} : ∀ {xs : List Str}, sumP ms R (fun x => x) xs = paysF ms R xs
  | [] => rfl
  | x :: xs => by rw [sumP, paysF, sumP_id]
theorem vR_ofW (o : WOk W) : vR (ofW W R) y = if y ∈ keysS W then vR R y else 0 := by
  by_cases q : y ∈ keysS W
  · rw [if_pos q]
    have nd : (keysS (ofW W R)).Nodup := by rw [keys_ofW]; exact o.nd
    have : (y, vR R y) ∈ ofW W R := List.mem_map.mpr ⟨y, q, rfl⟩
    have e := getS_mem nd this
    show (getS (ofW W R) y).getD 0 = _
    rw [e]; rfl
  · rw [if_neg q]
    exact vR_out (by rw [keys_ofW]; exact q)
theorem rch_paid {ms : List Stp} (o : WOk W) : rchGo ms (ofW W R) 0 = paidF ms W R := by
  rw [rchGo_eq (R := R) (keysS W) ms (fun x => x), sumP_id]
  · unfold paidF; omega
  · intro y
    rw [vR_ofW o, sumAt_id o.nd]
  · intro y
    rw [keys_ofW]
    exact ⟨fun h => ⟨y, h, rfl⟩, fun ⟨x, hx, e⟩ => by rw [← e]; exact hx⟩
theorem paysF_congr {ms : List Stp} : ∀ {xs : List Str}, (∀ x ∈ xs, vR R x = vR R' x) → paysF ms R xs = paysF ms R' xs
  | [], _ => rfl
  | x :: xs, h => by rw [paysF, paysF, h x List.mem_cons_self, paysF_congr fun z hz => h z (List.mem_cons_of_mem _ hz)]
theorem paid_nil : ∀ {xs : List Str}, paysF [] R xs = 0
  | [] => rfl
  | x :: xs => by rw [paysF, payF, paid_nil]; rfl
def dIt (p : Str × Int) : D := .tup [.str p.1, .int p.2]
theorem items_kR (R : Rws) : (kP D.int R).map itD = R.map dIt := by unfold kP; rw [List.map_map]; rfl
theorem dropD_kR : dropD (kP D.int R) (.inr x) = kP D.int (dropS R x) := by
  unfold dropD kP dropS
  rw [List.filter_map]
  congr 1
  refine congrArg (fun f => R.filter f) (funext fun p => ?_)
  show decide ((Sum.inr p.1 : Key) ≠ .inr x) = _
  by_cases q : p.1 = x
  · rw [decide_eq_true q, q]; exact decide_eq_false (fun h => h rfl)
  · rw [decide_eq_false q]; exact decide_eq_true (fun h => q (by cases h; rfl))
theorem opt_vR {o : Re → Prop} {i : Int} : optS ((getS R x).map D.int) (.val (.int i)) o = o (.val (.int ((getS R x).getD i))) := by cases getS R x <;> rfl
theorem dIt_toPy (p : Str × Int) : toPy (dIt p) = .tuple [.str p.1, .int p.2] := rfl
theorem srtOk_dIt (l : Rws) : srtOk (l.map dIt) := by
  refine ⟨fun d hd d' hd' => ?_, .inl fun d hd => ?_, ?_, fun d hd => ?_⟩
  · rw [List.map_map] at hd hd'
    obtain ⟨x, _, rfl⟩ := List.mem_map.mp hd
    obtain ⟨y, _, rfl⟩ := List.mem_map.mp hd'
    show PySem.W.alike (.tuple [.str x.1, .int x.2]) (.tuple [.str y.1, .int y.2]) = true
    simp [PySem.W.alike, PySem.W.alikeAll]
  · rw [List.map_map] at hd
    obtain ⟨x, _, rfl⟩ := List.mem_map.mp hd
    exact ⟨_, _, dIt_toPy x⟩
  · rw [List.all_map]
    exact List.all_eq_true.mpr fun x _ => rfl
  · obtain ⟨x, _, rfl⟩ := List.mem_map.mp hd
    show PyData.depth (.tuple [.str x.1, .int x.2]) ≤ 60
    have : PyData.depth (.tuple [.str x.1, .int x.2]) = 1 := rfl
    omega
/-! sizes -/
theorem ROk.val (h : ROk W R) (hx : x ∈ keysS R) : 1 ≤ vR R x ∧ vR R x ≤ 10 ^ 40 := ⟨h.pos _ (vR_mem hx), h.big _ (vR_mem hx)⟩
theorem ROk.val0 (h : ROk W R) : 0 ≤ vR R x ∧ vR R x ≤ 10 ^ 40 := by
  by_cases q : x ∈ keysS R
  · have := h.val q; omega
  · rw [vR_out q]; omega
theorem payF_le : ∀ (ms : List Stp) (c : Str) (r : Int), 0 ≤ r → r ≤ 10 ^ 40 → 0 ≤ payF ms c r ∧ payF ms c r ≤ ms.length * 10 ^ 40
  | [], _, _, _, _ => ⟨Int.le_refl _, by simp [payF]⟩
  | (a, b) :: ms, c, r, h1, h2 => by
    have i1 := payF_le ms b r h1 h2
    have i2 := payF_le ms c r h1 h2
    rw [payF, List.length_cons]
    push_cast
    split <;> omega
theorem paysF_le (h : ROk W R) (ms : List Stp) : ∀ xs : List Str, 0 ≤ paysF ms R xs ∧ paysF ms R xs ≤ xs.length * (ms.length * 10 ^ 40)
  | [] => ⟨Int.le_refl _, by simp [paysF]⟩
  | x :: xs => by
    have i1 := paysF_le h ms xs
    have i2 := payF_le ms x (vR R x) h.val0.1 h.val0.2
    rw [paysF, List.length_cons, Int.natCast_add, Int.add_mul]
    generalize (ms.length : Int) * 10 ^ 40 = z at i1 i2 ⊢
    generalize (xs.length : Int) * z = u at i1 ⊢
    rw [show ((1 : Nat) : Int) * z = z from Int.one_mul z]
    omega
theorem shk_int {i : Int} (h0 : 0 ≤ i) (h : i < 10 ^ 50) : Shk 0 1921 (.int i) := by
  have hl : i.natAbs.log2 < 1920 := by
    by_cases z : i.natAbs = 0
    · rw [z]; decide
    · exact (Nat.log2_lt z).mpr (Nat.lt_of_lt_of_le (show i.natAbs < 10 ^ 50 by omega) (by decide +kernel))
  exact ⟨rfl, by show decide (i.natAbs.log2 < 1920) = true; exact decide_eq_true hl, rfl, Nat.le_refl _, int_text_len_1921 hl⟩
theorem shk_dIt {p : Str × Int} (h : IsLab p.1) (h0 : 1 ≤ p.2) (h1 : p.2 ≤ 10 ^ 40) : Shk 1 4000 (dIt p) := (shk_tup (n := 0) (m := 1921) (k := 2) (fun d hd => by
  rcases List.mem_cons.mp hd with e | hd
  · rw [e]; exact (shk_str h).mono (by decide) (by decide)
  · rw [List.mem_singleton.mp hd]; exact shk_int (by omega) (by omega)) (by simp)).mono (by decide) (by decide)
theorem shk_rows (h : ROk W R) : Shk 2 4100000 (.lst (srtD false (R.map dIt))) := (shk_lst (n := 1) (m := 4000) (k := 1000) (fun d hd => by
  obtain ⟨m, hm, rfl⟩ := List.mem_map.mp (srtD_mem.mp hd)
  exact shk_dIt (h.lab m hm) (h.pos m hm) (h.big m hm)) (by rw [srtD_len, List.length_map]; exact h.ln)).mono (by decide) (by decide)
theorem show_wrm {ms : List Stp} (o : WOk W) (h : ROk W R) (hs : IsScr ms) (hl : ms.length ≤ 2000) : showOk (.lst [.lst (srtD false (W.map dSt)), .lst (srtD false (R.map dIt)), dM ms]) := (shk_lst (n := 2) (m := 4100000) (k := 3) (fun d hd => by
  rcases List.mem_cons.mp hd with e | hd
  · rw [e]; exact (shk_items o).mono (by decide) (by decide)
  · rcases List.mem_cons.mp hd with e | hd
    · rw [e]; exact shk_rows h
    · rw [List.mem_singleton.mp hd]; exact (shk_dM hs hl).mono (by decide) (by decide)) (by simp)).ok
theorem show_paid {ms : List Stp} (h : ROk W R) (hl : ms.length ≤ 2000) (hw : W.length ≤ 2000) : showOk (.int (paidF ms W R)) := by
  obtain ⟨a, b⟩ := paysF_le h ms (keysS W)
  refine (shk_int a ?_).ok
  rw [len_keysS] at b
  refine Int.lt_of_le_of_lt b ?_
  have h1 : (ms.length : Int) * 10 ^ 40 ≤ 2000 * 10 ^ 40 := Int.mul_le_mul_of_nonneg_right (by omega) (by decide)
  have h2 : (W.length : Int) * ((ms.length : Int) * 10 ^ 40) ≤ 2000 * (2000 * 10 ^ 40) := Int.mul_le_mul (by omega) h1 (by omega) (by decide)
  exact Int.lt_of_le_of_lt h2 (by decide)
theorem ROk.put (h : ROk W R) (hx : IsLab x) {v : Int} (h1 : 1 ≤ v) (h2 : v ≤ 10 ^ 40) (hl : R.length < 1000) : ROk W (putS R x v) where
  nd := by rw [keys_putS]; exact nodup_uqF h.nd
  lab := fun p hp => by
    have : p.1 ∈ keysS (putS R x v) := List.mem_map.mpr ⟨p, hp, rfl⟩
    rcases (keys_put R x v p.1).mp this with e | e
    · rw [e]; exact hx
    · obtain ⟨q, hq, e⟩ := List.mem_map.mp e
      rw [← e]; exact h.lab q hq
  pos := vals_putS (Q := fun i => 1 ≤ i) h.pos h1
  big := vals_putS (Q := fun i => i ≤ 10 ^ 40) h.big h2
  has := fun y hy => (keys_put R x v y).mpr (.inr (h.has y hy))
  ln := by have := len_putS R x v; omega
end
end Vl
namespace Vl
open PySem PySem.Spec L2
open PyProof.Rows hiding St

/-! ### shortest scripts fulfil their wishes -/
structure Inv (W : Wsh) (cur : Str → Str) (T P : Str → Prop) (gp : Str → Str) : Prop where
  st : ∀ x, x ∈ keysS W → T x → cur x = x
  dn : ∀ x, x ∈ keysS W → ¬ T x → (cur x = gl W x ∧ ¬ P (gl W x)) ∨ (P (cur x) ∧ gp (cur x) = gl W x)
  tp : ∀ x, T x → P x ∧ gp x = gl W x
def wo (T : Str → Prop) (b : Str) : Str → Prop := fun y => T y ∧ y ≠ b
section
variable {W : Wsh} {A : Alw} {cur cur' gp gp' : Str → Str} {T P T' P' : Str → Prop} {b p x y : Str} {r : List Str}
theorem img1 (a b c : Str) : imgF [(a, b)] c = if c = a then b else c := rfl
theorem Inv.go (h : Inv W cur T P gp) (hb : P b) (hg : ¬ P (gp b)) : Inv W (fun x => imgF [(b, gp b)] (cur x)) (wo T b) (wo P b) gp where
  st := fun x hx ⟨t, n⟩ => by
    show imgF [(b, gp b)] (cur x) = x
    rw [h.st x hx t, img1, if_neg n]
  dn := fun x hx nt => by
    show (imgF [(b, gp b)] (cur x) = gl W x ∧ ¬ wo P b (gl W x)) ∨ (wo P b (imgF [(b, gp b)] (cur x)) ∧ gp (imgF [(b, gp b)] (cur x)) = gl W x)
    rw [img1]
    by_cases t : T x
    · have e : x = b := Classical.byContradiction fun n => nt ⟨t, n⟩
      rw [h.st x hx t, if_pos e, ← e, (h.tp x t).2]
      refine .inl ⟨rfl, fun z => ?_⟩
      rw [← e, (h.tp x t).2] at hg
      exact hg z.1
    · rcases h.dn x hx t with ⟨h1, h2⟩ | ⟨h1, h2⟩
      · rw [h1, if_neg (fun e : gl W x = b => h2 (e ▸ hb))]
        exact .inl ⟨rfl, fun z => h2 z.1⟩
      · by_cases e : cur x = b
        · rw [if_pos e, ← e, h2]
          rw [← e, h2] at hg
          exact .inl ⟨rfl, fun z => hg z.1⟩
        · rw [if_neg e]
          exact .inr ⟨⟨h1, e⟩, h2⟩
  tp := fun x ⟨t, n⟩ => ⟨⟨(h.tp x t).1, n⟩, (h.tp x t).2⟩
theorem Inv.join (h : Inv W cur T P gp) (hx : T x) (hp : P p) (hxp : p ≠ x) (hg : gp p = gp x) : Inv W (fun z => imgF [(x, p)] (cur z)) (wo T x) (wo P x) gp where
  st := fun z hz ⟨t, n⟩ => by
    show imgF [(x, p)] (cur z) = z
    rw [h.st z hz t, img1, if_neg n]
  dn := fun z hz nt => by
    show (imgF [(x, p)] (cur z) = gl W z ∧ ¬ wo P x (gl W z)) ∨ (wo P x (imgF [(x, p)] (cur z)) ∧ gp (imgF [(x, p)] (cur z)) = gl W z)
    rw [img1]
    by_cases t : T z
    · have e : z = x := Classical.byContradiction fun n => nt ⟨t, n⟩
      rw [h.st z hz t, if_pos e]
      exact .inr ⟨⟨hp, hxp⟩, by rw [hg, ← e]; exact (h.tp z t).2⟩
    · rcases h.dn z hz t with ⟨h1, h2⟩ | ⟨h1, h2⟩
      · rw [h1, if_neg (fun e : gl W z = x => h2 (e ▸ (h.tp x hx).1))]
        exact .inl ⟨rfl, fun u => h2 u.1⟩
      · by_cases e : cur z = x
        · rw [if_pos e]
          exact .inr ⟨⟨hp, hxp⟩, by rw [hg, ← e]; exact h2⟩
        · rw [if_neg e]
          exact .inr ⟨⟨h1, e⟩, h2⟩
  tp := fun z ⟨t, n⟩ => ⟨⟨(h.tp z t).1, n⟩, (h.tp z t).2⟩
theorem Inv.park (h : Inv W cur T P gp) (hp : ¬ P p) (hn : ∀ z ∈ keysS W, cur z ≠ p) (g : Str) : Inv W cur T (fun y => P y ∨ y = p) (fun y => if y = p then g else gp y) where
  st := h.st
  dn := fun x hx nt => by
    rcases h.dn x hx nt with ⟨h1, h2⟩ | ⟨h1, h2⟩
    · refine .inl ⟨h1, fun z => z.elim h2 fun e => hn x hx (h1.trans e)⟩
    · refine .inr ⟨.inl h1, ?_⟩
      show (if cur x = p then g else gp (cur x)) = _
      rw [if_neg (hn x hx)]; exact h2
  tp := fun x t => by
    obtain ⟨h1, h2⟩ := h.tp x t
    refine ⟨.inl h1, ?_⟩
    show (if x = p then g else gp x) = _
    rw [if_neg (fun e : x = p => hp (e ▸ h1))]; exact h2
theorem Inv.iff (h : Inv W cur T P gp) (hc : ∀ z, cur z = cur' z) (hT : ∀ y, T y ↔ T' y) (hP : ∀ y, P y ↔ P' y) (hg : ∀ y, P y → gp y = gp' y) : Inv W cur' T' P' gp' where
  st := fun x hx t => by rw [← hc]; exact h.st x hx ((hT x).mpr t)
  dn := fun x hx nt => by
    rw [← hc]
    rcases h.dn x hx (fun t => nt ((hT x).mp t)) with ⟨h1, h2⟩ | ⟨h1, h2⟩
    · exact .inl ⟨h1, fun z => h2 ((hP _).mpr z)⟩
    · exact .inr ⟨(hP _).mp h1, by rw [← hg _ h1]; exact h2⟩
  tp := fun x t => by
    obtain ⟨h1, h2⟩ := h.tp x ((hT x).mpr t)
    exact ⟨(hP x).mp h1, by rw [← hg x h1]; exact h2⟩
def chn (W : Wsh) (y : Nat → Str) (n : Nat) : List Stp := (List.range n).map fun b => (y (b + 1), gl W (y (b + 1)))
def wos (T : Str → Prop) (y : Nat → Str) (n : Nat) : Str → Prop := fun z => T z ∧ ∀ b, 1 ≤ b → b ≤ n → z ≠ y b
theorem Inv.chain {y : Nat → Str} (h : Inv W cur T P gp) : ∀ n : Nat, (∀ b, 1 ≤ b → b ≤ n → P (y b) ∧ gp (y b) = gl W (y b)) → (∀ b, b < n → gl W (y (b + 1)) = y b) → ¬ P (y 0) → (∀ i j, i < j → j ≤ n → y i ≠ y j) →
    Inv W (fun z => imgF (chn W y n) (cur z)) (wos T y n) (wos P y n) gp
  | 0, _, _, _, _ => h.iff (fun _ => rfl) (fun z => ⟨fun t => ⟨t, fun b h1 h2 => by omega⟩, fun t => t.1⟩) (fun z => ⟨fun t => ⟨t, fun b h1 h2 => by omega⟩, fun t => t.1⟩) fun _ _ => rfl
  | n + 1, hp, hg, h0, hd => by
    have ih := Inv.chain h n (fun b h1 h2 => hp b h1 (by omega)) (fun b hb => hg b (by omega)) h0 fun i j h1 h2 => hd i j h1 (by omega)
    obtain ⟨q1, q2⟩ := hp (n + 1) (by omega) (Nat.le_refl _)
    have e := hg n (by omega)
    have step := ih.go (b := y (n + 1)) ⟨q1, fun b h1 h2 => (hd b (n + 1) (by omega) (Nat.le_refl _)).symm⟩ (by
      rw [q2, e]
      rintro ⟨z1, z2⟩
      by_cases n0 : n = 0
      · subst n0; exact h0 z1
      · exact z2 n (by omega) (Nat.le_refl _) rfl)
    have ww : ∀ (T : Str → Prop) z, wo (wos T y n) (y (n + 1)) z ↔ wos T y (n + 1) z := fun T z => by
      constructor
      · rintro ⟨⟨t, f⟩, g⟩
        refine ⟨t, fun b h1 h2 => ?_⟩
        by_cases q : b = n + 1
        · rw [q]; exact g
        · exact f b h1 (by omega)
      · rintro ⟨t, f⟩
        exact ⟨⟨t, fun b h1 h2 => f b h1 (by omega)⟩, f (n + 1) (by omega) (Nat.le_refl _)⟩
    refine step.iff (fun z => ?_) (ww T) (ww P) fun _ _ => rfl
    show imgF [(y (n + 1), gp (y (n + 1)))] (imgF (chn W y n) (cur z)) = imgF (chn W y (n + 1)) (cur z)
    rw [q2, ← imgF_append]
    unfold chn
    rw [List.range_succ, List.map_append]; rfl
theorem ring_ys {x0 : Str} {m : Nat} (R : IsRing W r x0 m) (hx : x ∈ r) (p : Str) : ∃ y : Nat → Str, y 0 = x ∧ brF W r x p = (x, p) :: chn W y m ∧ (∀ b, b < m → gl W (y (b + 1)) = y b) ∧ (∀ i j, i < j → j ≤ m → y i ≠ y j) ∧ ∀ z, z ∈ r ↔ ∃ b, b ≤ m ∧ y b = z := by
  have hl : r.length = m + 1 := by rw [R.eq]; unfold orb; rw [List.length_map, List.length_range]
  have hi : r.idxOf x < r.length := List.idxOf_lt_length_of_mem hx
  have hget : ∀ i, i < m + 1 → r.getD i "" = itG W i x0 := fun i h => by
    rw [R.eq]; unfold orb
    rw [List.getD_eq_getElem?_getD, List.getElem?_map, List.getElem?_range h]; rfl
  have e0 : itG W (r.idxOf x) x0 = x := by
    rw [← hget _ (by omega), List.getD_eq_getElem?_getD, List.getElem?_eq_getElem hi]
    exact List.getElem_idxOf hi
  generalize hc : r.idxOf x = c at *
  have per : ∀ i, itG W (i + (m + 1)) x0 = itG W i x0 := fun i => by rw [Nat.add_comm, itG_add, R.back]
  have inR : ∀ i, itG W i x0 ∈ r := fun i => R.mem.mpr ⟨i, rfl⟩
  refine ⟨fun b => itG W (c + (m + 1) - b) x0, ?_, ?_, fun b hb => ?_, fun i j h1 h2 e => ?_, fun z => ⟨fun hz => ?_, ?_⟩⟩
  · show itG W (c + (m + 1) - 0) x0 = x
    rw [Nat.sub_zero, per, e0]
  · unfold brF chn
    congr 1
    rw [hl, Nat.add_sub_cancel, hc]
    refine List.map_congr_left fun b hb => ?_
    have hb := List.mem_range.mp hb
    have : r.getD ((c + (m + 1) - (b + 1)) % (m + 1)) "" = itG W (c + (m + 1) - (b + 1)) x0 := by
      rw [hget _ (Nat.mod_lt _ (Nat.succ_pos m)), ← R.mod]
    rw [this]
  · show gl W (itG W (c + (m + 1) - (b + 1)) x0) = itG W (c + (m + 1) - b) x0
    rw [← itG_succ]
    congr 1; omega
  · have e : itG W (c + (m + 1) - i) x0 = itG W (c + (m + 1) - j) x0 := e
    rw [R.mod (c + (m + 1) - i), R.mod (c + (m + 1) - j)] at e
    have m1 := Nat.mod_lt (c + (m + 1) - i) (Nat.succ_pos m)
    have m2 := Nat.mod_lt (c + (m + 1) - j) (Nat.succ_pos m)
    have ne : (c + (m + 1) - i) % (m + 1) ≠ (c + (m + 1) - j) % (m + 1) := fun q => by
      have d1 := Nat.div_add_mod (c + (m + 1) - i) (m + 1)
      have d2 := Nat.div_add_mod (c + (m + 1) - j) (m + 1)
      rw [q] at d1
      have hle : (c + (m + 1) - j) / (m + 1) ≤ (c + (m + 1) - i) / (m + 1) := Nat.div_le_div_right (by omega)
      obtain ⟨k, hk⟩ := Nat.exists_eq_add_of_le hle
      rw [hk, Nat.mul_add] at d1
      generalize (m + 1) * ((c + (m + 1) - j) / (m + 1)) = u at d1 d2
      by_cases k0 : k = 0
      · rw [k0, Nat.mul_zero] at d1; omega
      · have : m + 1 ≤ (m + 1) * k := Nat.le_mul_of_pos_right _ (by omega)
        omega
    rcases Nat.lt_or_gt_of_ne ne with q | q
    · exact R.inj q (Nat.le_of_lt_succ m2) e
    · exact R.inj q (Nat.le_of_lt_succ m1) e.symm
  · obtain ⟨j, rfl⟩ := R.mem.mp hz
    rw [R.mod j]
    have hj := Nat.mod_lt j (Nat.succ_pos m)
    generalize j % (m + 1) = j at hj
    by_cases q : j ≤ c
    · refine ⟨c - j, by omega, ?_⟩
      show itG W (c + (m + 1) - (c - j)) x0 = _
      rw [show c + (m + 1) - (c - j) = j + (m + 1) by omega, per]
    · refine ⟨c + (m + 1) - j, by omega, ?_⟩
      show itG W (c + (m + 1) - (c + (m + 1) - j)) x0 = _
      rw [show c + (m + 1) - (c + (m + 1) - j) = j by omega]
  · rintro ⟨b, _, rfl⟩
    exact inR _
/-- a ring turned by a free place -/
theorem Inv.turn {x0 : Str} {m : Nat} (R : IsRing W r x0 m) (h : Inv W cur T T (gl W)) (hx : x ∈ r) (ht : ∀ y ∈ r, T y) (hpr : p ∉ r) (hp : ¬ T p) (hn : ∀ z ∈ keysS W, cur z ≠ p) :
    Inv W (fun z => imgF (brF W r x p ++ [(p, gl W x)]) (cur z)) (fun y => T y ∧ y ∉ r) (fun y => T y ∧ y ∉ r) (gl W) ∧ ∀ z ∈ keysS W, imgF (brF W r x p ++ [(p, gl W x)]) (cur z) ≠ p := by
  obtain ⟨y, y0, eb, yg, yd, ym⟩ := ring_ys R hx p
  have hxp : p ≠ x := fun e => hpr (e ▸ hx)
  have inr : ∀ b, b ≤ m → y b ∈ r := fun b hb => (ym _).mpr ⟨b, hb, rfl⟩
  have h1 := h.park hp hn (gl W x)
  have h2 := h1.join (x := x) (p := p) (ht x hx) (.inr rfl) hxp (by
    show (if p = p then gl W x else gl W p) = (if x = p then gl W x else gl W x)
    rw [if_pos rfl, if_neg hxp.symm])
  have h3 := h2.chain (y := y) m (fun b b1 b2 => ⟨⟨.inl (ht _ (inr b b2)), by rw [← y0]; exact (yd 0 b (by omega) b2).symm⟩, by
    show (if y b = p then gl W x else gl W (y b)) = _
    rw [if_neg (fun e : y b = p => hpr (e ▸ inr b b2))]⟩) yg (fun z => z.2 y0) yd
  have gx : gl W x ∈ r := R.next hx
  have h4 := h3.go (b := p) ⟨⟨.inr rfl, hxp⟩, fun b b1 b2 e => hpr (e ▸ inr b b2)⟩ (by
    show ¬ wos _ y m (if p = p then gl W x else gl W p)
    rw [if_pos rfl]
    rintro ⟨⟨_, n1⟩, n2⟩
    obtain ⟨b, hb, e⟩ := (ym _).mp gx
    by_cases b0 : b = 0
    · rw [b0, y0] at e; exact n1 e.symm
    · exact n2 b (by omega) hb e.symm)
  have ec : ∀ z, imgF [(p, if p = p then gl W x else gl W p)] (imgF (chn W y m) (imgF [(x, p)] (cur z))) = imgF (brF W r x p ++ [(p, gl W x)]) (cur z) := fun z => by
    rw [if_pos rfl, eb, imgF_append, ← imgF_append [(x, p)]]; rfl
  have eq : ∀ z, (z ≠ x ∧ ∀ b, 1 ≤ b → b ≤ m → z ≠ y b) ↔ z ∉ r := fun z => by
    constructor
    · rintro ⟨n1, n2⟩ hz
      obtain ⟨b, hb, rfl⟩ := (ym z).mp hz
      by_cases b0 : b = 0
      · rw [b0] at n1; exact n1 y0
      · exact n2 b (by omega) hb rfl
    · intro n
      exact ⟨fun e => n (e ▸ hx), fun b _ b2 e => n (e ▸ inr b b2)⟩
  refine ⟨h4.iff ec (fun z => ?_) (fun z => ?_) fun z hz => ?_, fun z hz => ?_⟩
  · constructor
    · rintro ⟨⟨⟨t, n1⟩, n2⟩, _⟩
      exact ⟨t, (eq z).mp ⟨n1, n2⟩⟩
    · rintro ⟨t, n⟩
      obtain ⟨n1, n2⟩ := (eq z).mpr n
      exact ⟨⟨⟨t, n1⟩, n2⟩, fun e => hp (e ▸ t)⟩
  · constructor
    · rintro ⟨⟨⟨t, n1⟩, n2⟩, n3⟩
      exact ⟨t.resolve_right n3, (eq z).mp ⟨n1, n2⟩⟩
    · rintro ⟨t, n⟩
      obtain ⟨n1, n2⟩ := (eq z).mpr n
      exact ⟨⟨⟨.inl t, n1⟩, n2⟩, fun e => hp (e ▸ t)⟩
  · show (if z = p then gl W x else gl W z) = gl W z
    rw [if_neg hz.2]
  · rw [imgF_append, img1]
    split
    · exact fun e => hpr (e ▸ gx)
    · assumption
theorem rings_eq {r' : List Str} (hr : r ∈ rgsF W) (hr' : r' ∈ rgsF W) (h : y ∈ r) (h' : y ∈ r') : r = r' := by
  have go : ∀ {r r' : List Str} {x x' : Str} {m m' : Nat}, IsRing W r x m → IsRing W r' x' m' → y ∈ r → y ∈ r' → sle x' x = true := fun {r r' x x' m m'} R R' h h' => by
    obtain ⟨i, e⟩ := R.mem.mp h
    obtain ⟨j, e'⟩ := R'.mem.mp h'
    refine R'.least x (R'.mem.mpr ⟨j + i * m, ?_⟩)
    rw [itG_add, e', ← e, ← itG_add, show i + i * m = i * (m + 1) by rw [Nat.mul_add, Nat.mul_one, Nat.add_comm]]
    exact itG_mul R.back i
  obtain ⟨x, m, R, _, _, _, e1⟩ := ring_of hr
  obtain ⟨x', m', R', _, _, _, e2⟩ := ring_of hr'
  have : x = x' := sle_anti (go R' R h' h) (go R R' h h')
  rw [e1, e2, this]
theorem rgsF_nodup (o : WOk W) : (rgsF W).Nodup := by
  unfold rgsF
  rw [List.nodup_iff_pairwise_ne, List.pairwise_map]
  refine List.Pairwise.imp_of_mem (fun {a b} _ _ (hab : a ≠ b) e => hab ?_) (List.nodup_iff_pairwise_ne.mp ((mvF_nodup o).filter _))
  obtain ⟨t, ht⟩ := rgF_head W a
  obtain ⟨u, hu⟩ := rgF_head W b
  rw [ht, hu] at e
  exact (List.cons.inj e).1
theorem Inv.turns (o : WOk W) : ∀ (rs : List (List Str)) {cur : Str → Str} {T : Str → Prop}, (∀ r ∈ rs, r ∈ rgsF W) → rs.Nodup → Inv W cur T T (gl W) → (∀ r ∈ rs, ∀ y ∈ r, T y) → (∀ r ∈ rs, p ∉ r) → ¬ T p → (∀ z ∈ keysS W, cur z ≠ p) →
    Inv W (fun z => imgF (tnF W rs p) (cur z)) (fun y => T y ∧ y ∉ rs.flatten) (fun y => T y ∧ y ∉ rs.flatten) (gl W)
  | [], cur, T, _, _, h, _, _, _, _ => h.iff (fun _ => rfl) (fun z => ⟨fun t => ⟨t, by simp⟩, fun t => t.1⟩) (fun z => ⟨fun t => ⟨t, by simp⟩, fun t => t.1⟩) fun _ _ => rfl
  | r :: rs, cur, T, hr, nd, h, ht, hp, hT, hn => by
    obtain ⟨n1, n2⟩ := List.nodup_cons.mp nd
    have hr0 := hr r List.mem_cons_self
    obtain ⟨x, m, R, eh, _⟩ := ring_of hr0
    have hx : r.headD "" ∈ r := head_mem (rgsF_ne hr0)
    obtain ⟨h1, h2⟩ := h.turn R hx (ht r List.mem_cons_self) (hp r List.mem_cons_self) hT hn
    have h3 := Inv.turns o rs (fun r' hr' => hr r' (List.mem_cons_of_mem _ hr')) n2 h1 (fun r' hr' y hy => ⟨ht r' (List.mem_cons_of_mem _ hr') y hy, fun hy2 => n1 (rings_eq hr0 (hr r' (List.mem_cons_of_mem _ hr')) hy2 hy ▸ hr')⟩) (fun r' hr' => hp r' (List.mem_cons_of_mem _ hr')) (fun z => hT z.1) h2
    have fl : ∀ z, ((T z ∧ z ∉ r) ∧ z ∉ rs.flatten) ↔ (T z ∧ z ∉ (r :: rs).flatten) := fun z => by
      rw [List.flatten_cons, List.mem_append, not_or]
      exact ⟨fun ⟨⟨a, b⟩, c⟩ => ⟨a, b, c⟩, fun ⟨a, b, c⟩ => ⟨⟨a, b⟩, c⟩⟩
    refine h3.iff (fun z => ?_) fl fl fun _ _ => rfl
    show imgF (tnF W rs p) (imgF _ (cur z)) = imgF (tnF W (r :: rs) p) (cur z)
    unfold tnF
    rw [List.flatMap_cons, imgF_append _ (List.flatMap _ rs)]
def TL (W : Wsh) (A : Alw) (L al : List (List Str)) : Str → Prop := fun y => y ∈ outL W ∨ y ∈ al.flatten ∨ ∃ r ∈ L, adF W A r ≠ none ∧ y ∈ r
theorem fold_inv (o : WOk W) : ∀ (L : List (List Str)) (st : List Stp × List (List Str)), (∀ r ∈ L, r ∈ rgsF W) → L.Nodup → (∀ r ∈ st.2, r ∈ rgsF W ∧ adF W A r = none) → st.2.Nodup → Inv W (imgF st.1) (TL W A L st.2) (TL W A L st.2) (gl W) →
    Inv W (imgF (L.foldl (scStep W A) st).1) (TL W A [] (L.foldl (scStep W A) st).2) (TL W A [] (L.foldl (scStep W A) st).2) (gl W)
  | [], st, _, _, _, _, h => h
  | r :: L, st, hL, nd, ha, na, h => by
    obtain ⟨n1, n2⟩ := List.nodup_cons.mp nd
    have hr0 := hL r List.mem_cons_self
    have hL' : ∀ r ∈ L, r ∈ rgsF W := fun z hz => hL z (List.mem_cons_of_mem _ hz)
    rw [List.foldl_cons]
    cases e : adF W A r with
    | none =>
      have es : scStep W A st r = st := by unfold scStep; rw [e]
      rw [es]
      have eq : ∀ z, TL W A (r :: L) st.2 z ↔ TL W A L st.2 z := fun z => by
        unfold TL
        constructor
        · rintro (a | a | ⟨r', h1, h2, h3⟩)
          · exact .inl a
          · exact .inr (.inl a)
          · rcases List.mem_cons.mp h1 with q | h1
            · exact absurd (q ▸ e) h2
            · exact .inr (.inr ⟨r', h1, h2, h3⟩)
        · rintro (a | a | ⟨r', h1, h2, h3⟩)
          · exact .inl a
          · exact .inr (.inl a)
          · exact .inr (.inr ⟨r', List.mem_cons_of_mem _ h1, h2, h3⟩)
      exact fold_inv o L st hL' n2 ha na (h.iff (fun _ => rfl) eq eq fun _ _ => rfl)
    | some q =>
      obtain ⟨x, pt⟩ := q
      have es : scStep W A st r = (st.1 ++ (brF W r x pt).take 1 ++ tnF W st.2 x ++ (brF W r x pt).drop 1, []) := by unfold scStep; rw [e]
      rw [es]
      obtain ⟨hx, hpt⟩ := adF_some e
      obtain ⟨p1, p2, p3, _⟩ := mem_ptF.mp hpt
      have hx : x ∈ r := hx
      have p2 : pt ∉ r := p2
      have p3 : gl W pt = gl W x := p3
      obtain ⟨x0, m, R, _⟩ := ring_of hr0
      obtain ⟨y, y0, eb, yg, yd, ym⟩ := ring_ys R hx pt
      have inr : ∀ b, b ≤ m → y b ∈ r := fun b hb => (ym _).mpr ⟨b, hb, rfl⟩
      have gx : gl W x ∈ r := R.next hx
      have tr : ∀ z ∈ r, TL W A (r :: L) st.2 z := fun z hz => .inr (.inr ⟨r, List.mem_cons_self, by rw [e]; exact fun h => (by cases h), hz⟩)
      have tp : pt ∈ outL W := mem_outL.mpr ⟨⟨p1, fun e => p2 (by rw [← e, p3]; exact gx)⟩, fun r' hr' hz => by
        obtain ⟨x', m', R', _⟩ := ring_of hr'
        have := R'.next hz
        rw [p3] at this
        rw [← rings_eq hr0 hr' gx this] at hz
        exact p2 hz⟩
      have hxp : pt ≠ x := fun e => p2 (e ▸ hx)
      have h1 := h.join (tr x hx) (p := pt) (.inl tp) hxp p3
      have al_r : ∀ z, z ∈ st.2.flatten → z ∉ r := fun z hz hz2 => by
        obtain ⟨r', h1, h2⟩ := List.mem_flatten.mp hz
        obtain ⟨g1, g2⟩ := ha r' h1
        rw [← rings_eq hr0 g1 hz2 h2, e] at g2
        cases g2
      have h2 := Inv.turns o (p := x) st.2 (fun r hr => (ha r hr).1) na h1 (fun r' hr' z hz => ⟨.inr (.inl (List.mem_flatten.mpr ⟨r', hr', hz⟩)), fun ez => al_r z (List.mem_flatten.mpr ⟨r', hr', hz⟩) (ez ▸ hx)⟩) (fun r' hr' hz => al_r x (List.mem_flatten.mpr ⟨r', hr', hz⟩) hx) (fun z => z.2 rfl) (fun z hz => by
        show imgF [(x, pt)] (imgF st.1 z) ≠ x
        rw [img1]
        split
        · exact hxp
        · assumption)
      have h3 := h2.chain (y := y) m (fun b b1 b2 => ⟨⟨⟨tr _ (inr b b2), by rw [← y0]; exact (yd 0 b (by omega) b2).symm⟩, fun z => al_r _ z (inr b b2)⟩, rfl⟩) yg (fun z => z.1.2 y0) yd
      have eq : ∀ z, wos (fun y => wo (TL W A (r :: L) st.2) x y ∧ y ∉ st.2.flatten) y m z ↔ TL W A L [] z := fun z => by
        constructor
        · rintro ⟨⟨⟨t, t1⟩, t2⟩, t3⟩
          rcases t with a | a | ⟨r', h1, h2, h3⟩
          · exact .inl a
          · exact absurd a t2
          · rcases List.mem_cons.mp h1 with q | h1
            · rw [q] at h3
              obtain ⟨b, hb, e⟩ := (ym z).mp h3
              by_cases b0 : b = 0
              · rw [b0, y0] at e; exact absurd e.symm t1
              · exact absurd e.symm (t3 b (by omega) hb)
            · exact .inr (.inr ⟨r', h1, h2, h3⟩)
        · intro t
          have nr : z ∉ r := fun hz => by
            rcases t with a | a | ⟨r', h1, h2, h3⟩
            · exact (mem_outL.mp a).2 r hr0 hz
            · cases a
            · exact n1 (rings_eq hr0 (hL' r' h1) hz h3 ▸ h1)
          have na : z ∉ st.2.flatten := fun hz => by
            obtain ⟨r2, g1, g2⟩ := List.mem_flatten.mp hz
            obtain ⟨g3, g4⟩ := ha r2 g1
            rcases t with a | a | ⟨r', h1, h2, h3⟩
            · exact (mem_outL.mp a).2 r2 g3 g2
            · cases a
            · rw [rings_eq (hL' r' h1) g3 h3 g2] at h2
              exact h2 g4
          refine ⟨⟨⟨?_, fun e => nr (e ▸ hx)⟩, na⟩, fun b _ b2 e => nr (e ▸ inr b b2)⟩
          rcases t with a | a | ⟨r', h1, h2, h3⟩
          · exact .inl a
          · cases a
          · exact .inr (.inr ⟨r', List.mem_cons_of_mem _ h1, h2, h3⟩)
      refine fold_inv o L _ hL' n2 (fun _ h => by cases h) List.nodup_nil (h3.iff (fun z => ?_) eq eq fun _ _ => rfl)
      show imgF (chn W y m) (imgF (tnF W st.2 x) (imgF [(x, pt)] (imgF st.1 z))) = imgF (st.1 ++ (brF W r x pt).take 1 ++ tnF W st.2 x ++ (brF W r x pt).drop 1) z
      rw [imgF_append, imgF_append, imgF_append, eb]; rfl
theorem Inv.start (W : Wsh) : Inv W (fun z => z) (fun y => y ∈ mvF W) (fun y => y ∈ mvF W) (gl W) where
  st := fun _ _ _ => rfl
  dn := fun x hx n => by
    have e : gl W x = x := Classical.byContradiction fun q => n (mem_mvF.mpr ⟨hx, q⟩)
    rw [e]
    exact .inl ⟨rfl, n⟩
  tp := fun _ h => ⟨h, rfl⟩
theorem TL_all (W : Wsh) (A : Alw) (z : Str) : TL W A (rgsF W) (al0F W A) z ↔ z ∈ mvF W := by
  have rg : ∀ r ∈ rgsF W, ∀ z ∈ r, z ∈ mvF W := fun r hr z hz => by
    obtain ⟨x, m, R, _⟩ := ring_of hr
    exact mem_mvF.mpr ⟨R.key hz, R.moves hz⟩
  constructor
  · rintro (a | a | ⟨r, h1, h2, h3⟩)
    · exact mem_mvF.mpr (mem_outL.mp a).1
    · obtain ⟨r, h1, h2⟩ := List.mem_flatten.mp a
      exact rg r (al0_sub r h1) z h2
    · exact rg r h1 z h3
  · intro h
    by_cases q : ∃ r ∈ rgsF W, z ∈ r
    · obtain ⟨r, h1, h2⟩ := q
      cases e : adF W A r with
      | none => exact .inr (.inl (List.mem_flatten.mpr ⟨r, List.mem_filter.mpr ⟨h1, by rw [e]; rfl⟩, h2⟩))
      | some p => exact .inr (.inr ⟨r, h1, by rw [e]; exact fun h => (by cases h), h2⟩)
    · exact .inl (mem_outL.mpr ⟨mem_mvF.mp h, fun r hr hz => q ⟨r, hr, hz⟩⟩)
theorem scP_inv (o : WOk W) (hf : ∀ p, freF W A = some p → p ∉ keysS W) : Inv W (imgF (scP W A).1) (TL W A [] (scP W A).2) (TL W A [] (scP W A).2) (gl W) := by
  have nd := rgsF_nodup o
  have al1 : ∀ r ∈ al0F W A, r ∈ rgsF W ∧ adF W A r = none := fun r hr => ⟨al0_sub r hr, Option.isNone_iff_eq_none.mp (List.mem_filter.mp hr).2⟩
  have al2 : (al0F W A).Nodup := nd.filter _
  have st := (Inv.start W).iff (cur' := fun z => z) (T' := TL W A (rgsF W) (al0F W A)) (P' := TL W A (rgsF W) (al0F W A)) (fun _ => rfl) (fun z => (TL_all W A z).symm) (fun z => (TL_all W A z).symm) fun _ _ => rfl
  unfold scP scIni
  cases e : freF W A with
  | none => exact fold_inv o (rgsF W) ([], al0F W A) (fun _ h => h) nd al1 al2 st
  | some p =>
    have hp := hf p e
    have h1 := Inv.turns o (p := p) (al0F W A) (fun r hr => (al1 r hr).1) al2 st (fun r hr z hz => .inr (.inl (List.mem_flatten.mpr ⟨r, hr, hz⟩))) (fun r hr hz => hp (rgsF_sub (al1 r hr).1 p hz)) (fun t => hp (mem_mvF.mp ((TL_all W A p).mp t)).1) fun z hz e => hp (e ▸ hz)
    have eq : ∀ z, (TL W A (rgsF W) (al0F W A) z ∧ z ∉ (al0F W A).flatten) ↔ TL W A (rgsF W) [] z := fun z => by
      constructor
      · rintro ⟨a | a | a, b⟩
        · exact .inl a
        · exact absurd a b
        · exact .inr (.inr a)
      · intro t
        refine ⟨?_, fun hz => ?_⟩
        · rcases t with a | a | a
          · exact .inl a
          · cases a
          · exact .inr (.inr a)
        · obtain ⟨r2, g1, g2⟩ := List.mem_flatten.mp hz
          rcases t with a | a | ⟨r', h1, h2, h3⟩
          · exact (mem_outL.mp a).2 r2 (al1 r2 g1).1 g2
          · cases a
          · rw [rings_eq h1 (al1 r2 g1).1 h3 g2] at h2
            exact h2 (al1 r2 g1).2
    exact fold_inv o (rgsF W) (tnF W (al0F W A) p, []) (fun _ h => h) nd (fun _ h => by cases h) List.nodup_nil (h1.iff (fun _ => rfl) eq eq fun _ _ => rfl)
theorem outGo_inv (o : WOk W) : ∀ (n : Nat) {ms : List Stp} {rest : List Str} {al : List (List Str)}, OutOk W A al rest → rest.Nodup → al.Nodup → rest.length ≤ n → Inv W (imgF ms) (fun y => y ∈ rest ∨ y ∈ al.flatten) (fun y => y ∈ rest ∨ y ∈ al.flatten) (gl W) →
    Inv W (imgF (outGo W A n ms rest al)) (fun _ => False) (fun _ => False) (gl W) := by
  have stop : ∀ {ms : List Stp} {al : List (List Str)}, OutOk W A al [] → Inv W (imgF ms) (fun y => y ∈ [] ∨ y ∈ al.flatten) (fun y => y ∈ [] ∨ y ∈ al.flatten) (gl W) → Inv W (imgF ms) (fun _ => False) (fun _ => False) (gl W) := fun {ms al} hk h => by
    have : al = [] := Classical.byContradiction fun q => by
      obtain ⟨⟨a, ha, _⟩, _⟩ := hk.fre q
      cases ha
    subst this
    have eq : ∀ z : Str, (z ∈ ([] : List Str) ∨ z ∈ ([] : List (List Str)).flatten) ↔ False := fun z => by simp
    exact h.iff (fun _ => rfl) eq eq fun _ _ => rfl
  intro n
  induction n with
  | zero =>
    intro ms rest al hk nd na hl h
    have : rest = [] := List.length_eq_zero_iff.mp (by omega)
    subst this
    exact stop hk h
  | succ n ih =>
    intro ms rest al hk nd na hl h
    rw [outGo]
    by_cases q : rest = []
    · subst q
      rw [if_pos rfl]
      exact stop hk h
    · rw [if_neg q]
      obtain ⟨t, e1, hb⟩ := hk.pick o q
      have hg : gl W (pickF W rest al) ∉ waitF rest al := of_decide_eq_true (List.mem_filter.mp (show pickF W rest al ∈ rest.filter (fun x => decide (gl W x ∉ waitF rest al)) by rw [e1]; exact List.mem_cons_self)).2
      generalize pickF W rest al = b at hb hg
      have hg' : ¬ (gl W b ∈ rest ∨ gl W b ∈ al.flatten) := fun z => hg (List.mem_append.mpr z)
      have h1 := h.go (b := b) (.inl hb) hg'
      obtain ⟨s1, s2, s3⟩ := hk.sub b hb
      have hbal : b ∉ al.flatten := fun z => by
        obtain ⟨r, g1, g2⟩ := List.mem_flatten.mp z
        exact s3 r (hk.rgs r g1) g2
      have er : ∀ z, z ∈ rest.erase b ↔ z ≠ b ∧ z ∈ rest := fun z => nd.mem_erase_iff
      have eq : ∀ z, wo (fun y => y ∈ rest ∨ y ∈ al.flatten) b z ↔ (z ∈ rest.erase b ∨ z ∈ al.flatten) := fun z => by
        rw [er]
        constructor
        · rintro ⟨a | a, n⟩
          · exact .inl ⟨n, a⟩
          · exact .inr a
        · rintro (⟨n, a⟩ | a)
          · exact ⟨.inl a, n⟩
          · exact ⟨.inr a, fun e => hbal (e ▸ a)⟩
      have le : (rest.erase b).length ≤ n := by rw [List.length_erase_of_mem hb]; omega
      have h2 : Inv W (imgF (ms ++ [(b, gl W b)])) (fun y => y ∈ rest.erase b ∨ y ∈ al.flatten) (fun y => y ∈ rest.erase b ∨ y ∈ al.flatten) (gl W) := h1.iff (fun z => (imgF_append _ _ _).symm) eq eq fun _ _ => rfl
      by_cases qm : mayF A b = true
      · rw [if_pos qm]
        have h3 := Inv.turns o (p := b) al hk.rgs na h2 (fun r hr z hz => .inr (List.mem_flatten.mpr ⟨r, hr, hz⟩)) (fun r hr hz => hbal (List.mem_flatten.mpr ⟨r, hr, hz⟩)) (fun z => z.elim (fun z => ((er b).mp z).1 rfl) hbal) (fun z hz => by
          rw [imgF_append, img1]
          split
          · exact s2
          · assumption)
        have eq2 : ∀ z, ((z ∈ rest.erase b ∨ z ∈ al.flatten) ∧ z ∉ al.flatten) ↔ (z ∈ rest.erase b ∨ z ∈ ([] : List (List Str)).flatten) := fun z => by
          constructor
          · rintro ⟨a | a, n⟩
            · exact .inl a
            · exact absurd a n
          · rintro (a | a)
            · refine ⟨.inl a, fun hz => ?_⟩
              obtain ⟨r, g1, g2⟩ := List.mem_flatten.mp hz
              exact (hk.sub z ((er z).mp a).2).2.2 r (hk.rgs r g1) g2
            · cases a
        exact ih hk.nxt0 (nd.erase b) List.nodup_nil le (h3.iff (fun z => (imgF_append _ _ _).symm) eq2 eq2 fun _ _ => rfl)
      · rw [if_neg qm]
        exact ih (hk.nxt (by simpa using qm)) (nd.erase b) na le h2
theorem scP_al_nd (o : WOk W) : (scP W A).2.Nodup := by
  rcases scP_al W A with e | ⟨_, _, e⟩
  · rw [e]; exact List.nodup_nil
  · rw [e]; exact rgsF_nodup o
theorem outL_nd (o : WOk W) : (outL W).Nodup := (mvF_nodup o).filter _
/-- the script fulfils the wish -/
theorem scF_right (o : WOk W) (hf : ∀ p, freF W A = some p → p ∉ keysS W) (h : OutOk W A (scP W A).2 (outL W)) : ∀ x ∈ keysS W, imgF (scF W A) x = gl W x := by
  have h1 := scP_inv (A := A) o hf
  have eq : ∀ z, TL W A [] (scP W A).2 z ↔ (z ∈ outL W ∨ z ∈ (scP W A).2.flatten) := fun z => by
    constructor
    · rintro (a | a | ⟨r, h1, _⟩)
      · exact .inl a
      · exact .inr a
      · cases h1
    · rintro (a | a)
      · exact .inl a
      · exact .inr (.inl a)
  have nil : ∀ (n : Nat) (ms : List Stp) (rest : List Str) (al : List (List Str)), outGo W A n ms rest al = ms ++ outGo W A n [] rest al := fun n => by
    induction n with
    | zero => intro ms rest al; exact (List.append_nil _).symm
    | succ n ih =>
      intro ms rest al
      rw [outGo, outGo]
      split
      · exact (List.append_nil _).symm
      · split
        · rw [ih, ih ([] ++ _ ++ _)]; simp only [List.append_assoc, List.nil_append]
        · rw [ih, ih ([] ++ _)]; simp only [List.append_assoc, List.nil_append]
  have h2 := outGo_inv o (outL W).length h (outL_nd o) (scP_al_nd o) (Nat.le_refl _) (h1.iff (fun _ => rfl) eq eq fun _ _ => rfl)
  rw [nil] at h2
  intro x hx
  rcases h2.dn x hx (fun z => z) with ⟨e, _⟩ | ⟨z, _⟩
  · exact e
  · exact z.elim
end
end Vl
namespace Vl
open PySem PySem.Spec L2
open PyProof.Rows hiding St

/-! ### .. and have as many steps as labels that move and lonely rings -/
section
variable {W : Wsh} {A : Alw} {x y p : Str} {r : List Str}
theorem tnF_len (p : Str) : ∀ rs : List (List Str), (∀ r ∈ rs, r ≠ []) → (tnF W rs p).length = rs.flatten.length + rs.length
  | [], _ => rfl
  | r :: rs, h => by
    have ih := tnF_len p rs fun r hr => h r (List.mem_cons_of_mem _ hr)
    unfold tnF at ih ⊢
    rw [List.flatMap_cons, List.length_append, ih, List.length_append, len_brF (h r List.mem_cons_self), List.flatten_cons, List.length_append, List.length_cons, List.length_cons, List.length_nil]
    omega
def sumR (W : Wsh) (A : Alw) : List (List Str) → Nat
  | [] => 0
  | r :: L => (if (adF W A r).isNone = true then 0 else r.length) + sumR W A L
theorem sumR_al {W : Wsh} {A : Alw} : ∀ L : List (List Str), sumR W A L + (L.filter fun r => (adF W A r).isNone).flatten.length = L.flatten.length
  | [] => rfl
  | r :: L => by
    have ih := sumR_al (W := W) (A := A) L
    rw [sumR, List.filter_cons]
    by_cases q : (adF W A r).isNone = true
    · rw [if_pos q, if_pos q, List.flatten_cons, List.flatten_cons, List.length_append, List.length_append]; omega
    · rw [if_neg q, if_neg q, List.flatten_cons, List.length_append]; omega
theorem fold_len : ∀ (L : List (List Str)) (st : List Stp × List (List Str)), (∀ r ∈ L, r ≠ []) → (∀ r ∈ st.2, r ≠ []) →
    (L.foldl (scStep W A) st).1.length + ((L.foldl (scStep W A) st).2.flatten.length + (L.foldl (scStep W A) st).2.length) = st.1.length + (st.2.flatten.length + st.2.length) + sumR W A L
  | [], st, _, _ => rfl
  | r :: L, st, h, ha => by
    have h' : ∀ r ∈ L, r ≠ [] := fun r hr => h r (List.mem_cons_of_mem _ hr)
    have hr := h r List.mem_cons_self
    rw [List.foldl_cons, sumR]
    cases e : adF W A r with
    | none =>
      have es : scStep W A st r = st := by unfold scStep; rw [e]
      rw [es, fold_len L st h' ha, if_pos (by rfl)]; omega
    | some q =>
      obtain ⟨x, pt⟩ := q
      have es : scStep W A st r = (st.1 ++ (brF W r x pt).take 1 ++ tnF W st.2 x ++ (brF W r x pt).drop 1, []) := by unfold scStep; rw [e]
      rw [es, fold_len L _ h' (fun _ h => by cases h), if_neg (fun h => by cases h)]
      have := len_brF (W := W) (x := x) (p := pt) hr
      have h0 := List.length_pos_iff.mpr hr
      simp only [List.length_append, List.length_take, List.length_drop, tnF_len x st.2 ha, List.flatten_nil, List.length_nil]
      omega
theorem outGo_size (o : WOk W) : ∀ (n : Nat) {ms : List Stp} {rest : List Str} {al : List (List Str)}, OutOk W A al rest → rest.length ≤ n → (outGo W A n ms rest al).length = ms.length + rest.length + (al.flatten.length + al.length) := by
  have stop : ∀ {ms : List Stp} {al : List (List Str)}, OutOk W A al [] → ms.length = ms.length + ([] : List Str).length + (al.flatten.length + al.length) := fun {ms al} hk => by
    have : al = [] := Classical.byContradiction fun q => by
      obtain ⟨⟨a, ha, _⟩, _⟩ := hk.fre q
      cases ha
    subst this; rfl
  intro n
  induction n with
  | zero =>
    intro ms rest al hk hl
    have : rest = [] := List.length_eq_zero_iff.mp (by omega)
    subst this
    exact stop hk
  | succ n ih =>
    intro ms rest al hk hl
    rw [outGo]
    by_cases q : rest = []
    · subst q
      rw [if_pos rfl]
      exact stop hk
    · rw [if_neg q]
      obtain ⟨t, e1, hb⟩ := hk.pick o q
      generalize pickF W rest al = b at hb
      have h0 := List.length_pos_iff.mpr q
      have le : (rest.erase b).length = rest.length - 1 := List.length_erase_of_mem hb
      by_cases qm : mayF A b = true
      · rw [if_pos qm, ih hk.nxt0 (by omega)]
        have := tnF_len (W := W) b al fun r hr => rgsF_ne (hk.rgs r hr)
        simp only [List.length_append, List.length_singleton, this, List.flatten_nil, List.length_nil, le]
        omega
      · rw [if_neg qm, ih (hk.nxt (by simpa using qm)) (by omega)]
        simp only [List.length_append, List.length_singleton, le]
        omega
theorem flat_nodup : ∀ {L : List (List Str)}, (∀ r ∈ L, r ∈ rgsF W) → L.Nodup → L.flatten.Nodup
  | [], _, _ => List.nodup_nil
  | r :: L, h, nd => by
    obtain ⟨n1, n2⟩ := List.nodup_cons.mp nd
    have hr := h r List.mem_cons_self
    have h' : ∀ r ∈ L, r ∈ rgsF W := fun r hr => h r (List.mem_cons_of_mem _ hr)
    obtain ⟨x, m, R, _⟩ := ring_of hr
    rw [List.flatten_cons, List.nodup_append]
    refine ⟨R.nodup, flat_nodup h' n2, fun a ha b hb e => ?_⟩
    obtain ⟨r', g1, g2⟩ := List.mem_flatten.mp hb
    exact n1 (rings_eq hr (h' r' g1) ha (e ▸ g2) ▸ g1)
theorem mv_split (o : WOk W) : (mvF W).length = (rgsF W).flatten.length + (outL W).length := by
  have p : (mvF W).Perm ((rgsF W).flatten ++ outL W) := by
    refine (List.perm_ext_iff_of_nodup (mvF_nodup o) (List.nodup_append.mpr ⟨flat_nodup (fun _ h => h) (rgsF_nodup o), outL_nd o, fun a ha b hb e => ?_⟩)).mpr fun z => ?_
    · obtain ⟨r, g1, g2⟩ := List.mem_flatten.mp ha
      exact (mem_outL.mp hb).2 r g1 (e ▸ g2)
    · rw [List.mem_append]
      constructor
      · intro h
        by_cases q : z ∈ (rgsF W).flatten
        · exact .inl q
        · exact .inr (mem_outL.mpr ⟨mem_mvF.mp h, fun r hr hz => q (List.mem_flatten.mpr ⟨r, hr, hz⟩)⟩)
      · rintro (h | h)
        · obtain ⟨r, g1, g2⟩ := List.mem_flatten.mp h
          obtain ⟨x, m, R, _⟩ := ring_of g1
          exact mem_mvF.mpr ⟨R.key g2, R.moves g2⟩
        · exact mem_mvF.mpr (mem_outL.mp h).1
  rw [p.length_eq, List.length_append]
theorem scF_size (o : WOk W) (h : OutOk W A (scP W A).2 (outL W)) : (scF W A).length = (mvF W).length + (lnF W A).length := by
  have ne : ∀ r ∈ rgsF W, r ≠ [] := fun r hr => rgsF_ne hr
  have ne0 : ∀ r ∈ al0F W A, r ≠ [] := fun r hr => ne r (al0_sub r hr)
  have h1 : (scP W A).1.length + ((scP W A).2.flatten.length + (scP W A).2.length) = (al0F W A).flatten.length + (al0F W A).length + sumR W A (rgsF W) := by
    unfold scP scIni
    cases e : freF W A with
    | none =>
      rw [fold_len (rgsF W) _ ne ne0]
      show 0 + ((al0F W A).flatten.length + (al0F W A).length) + _ = _
      omega
    | some p =>
      rw [fold_len (rgsF W) _ ne (fun _ h => by cases h)]
      show (tnF W (al0F W A) p).length + (0 + 0) + _ = _
      rw [tnF_len p _ ne0]; omega
  have h2 := outGo_size o (outL W).length (ms := []) h (Nat.le_refl _)
  have h3 := sumR_al (W := W) (A := A) (rgsF W)
  have h4 := mv_split o
  rw [← al0F_ln]
  unfold scF outF
  rw [List.length_append, h2, List.length_nil]
  have h3 : sumR W A (rgsF W) + (al0F W A).flatten.length = (rgsF W).flatten.length := h3
  omega
end
end Vl
namespace Vl
open PySem PySem.Spec L2
open PyProof.Rows hiding St

/-! ### rings gone through in another way; columns that melt -/
def lgGo (W : Wsh) : Nat → List Str → Str → List Str × Str
  | 0, r, a => (r, a)
  | n + 1, r, a => if a ∈ keysS W ∧ a ∉ r then lgGo W n (r ++ [a]) (gl W a) else (r, a)
def lgF (W : Wsh) (x : Str) : List Str × Str := lgGo W W.length [x] (gl W x)
def lgc (W : Wsh) (x : Str) : Bool := decide ((lgF W x).2 = x) && (decide (1 < (lgF W x).1.length) && leS x (lgF W x).1)
def lgL (W : Wsh) (l : List Str) : List (List Str) := (l.filter (lgc W)).map fun x => (lgF W x).1
section
variable {W : Wsh} {A : Alw} {x y p : Str} {r : List Str}
theorem lgGo_stop {n : Nat} {a : Str} (h : ¬ (a ∈ keysS W ∧ a ∉ r)) : lgGo W n r a = (r, a) := by
  cases n with
  | zero => rfl
  | succ n => rw [lgGo, if_neg h]
theorem lgGo_orb : ∀ (n k : Nat), (orb W x (k + 1)).Nodup → ∃ m, lgGo W n (orb W x (k + 1)) (itG W (k + 1) x) = (orb W x (m + 1), itG W (m + 1) x) ∧ k ≤ m ∧ m ≤ k + n ∧ (∀ i, k < i → i ≤ m → itG W i x ∈ keysS W) ∧ (orb W x (m + 1)).Nodup ∧ (m = k + n ∨ itG W (m + 1) x ∉ keysS W ∨ itG W (m + 1) x ∈ orb W x (m + 1))
  | 0, k, nd => ⟨k, rfl, Nat.le_refl _, Nat.le_refl _, fun i h1 h2 => by omega, nd, .inl rfl⟩
  | n + 1, k, nd => by
    rw [lgGo]
    by_cases c : itG W (k + 1) x ∈ keysS W ∧ itG W (k + 1) x ∉ orb W x (k + 1)
    · have nd2 : (orb W x (k + 1 + 1)).Nodup := by
        rw [orb_succ, List.nodup_append]
        exact ⟨nd, by simp, fun a ha b hb e => c.2 (by rw [← List.mem_singleton.mp hb, ← e]; exact ha)⟩
      rw [if_pos c, ← orb_succ, ← itG_succ]
      obtain ⟨m, e, h1, h2, h3, h4, h5⟩ := lgGo_orb n (k + 1) nd2
      refine ⟨m, e, by omega, by omega, fun i i1 i2 => ?_, h4, ?_⟩
      · by_cases q : i = k + 1
        · rw [q]; exact c.1
        · exact h3 i (by omega) i2
      · rcases h5 with h5 | h5
        · exact .inl (by omega)
        · exact .inr h5
    · rw [if_neg c]
      refine ⟨k, rfl, Nat.le_refl _, by omega, fun i h1 h2 => by omega, nd, .inr ?_⟩
      by_cases q : itG W (k + 1) x ∈ keysS W
      · exact .inr (Decidable.not_not.mp fun z => c ⟨q, z⟩)
      · exact .inl q
theorem lgF_orb (W : Wsh) (x : Str) : ∃ m, lgF W x = (orb W x (m + 1), itG W (m + 1) x) ∧ m ≤ W.length ∧ (∀ i, 0 < i → i ≤ m → itG W i x ∈ keysS W) ∧ (orb W x (m + 1)).Nodup ∧ (m = W.length ∨ itG W (m + 1) x ∉ keysS W ∨ itG W (m + 1) x ∈ orb W x (m + 1)) := by
  obtain ⟨m, e, _, h2, h3, h4, h5⟩ := lgGo_orb (W := W) (x := x) W.length 0 (by unfold orb; simp)
  rw [Nat.zero_add] at h2 h5
  exact ⟨m, e, h2, h3, h4, h5⟩
theorem orb_ne {m i : Nat} (nd : (orb W x (m + 1)).Nodup) (h : 0 < i) (hi : i ≤ m) : itG W i x ≠ x := fun e => by
  unfold orb at nd
  rw [List.nodup_iff_pairwise_ne, List.pairwise_map] at nd
  have := List.pairwise_iff_getElem.mp nd 0 i (by rw [List.length_range]; omega) (by rw [List.length_range]; omega) h
  rw [List.getElem_range, List.getElem_range] at this
  exact this e.symm
theorem orb_len (m : Nat) : (orb W x m).length = m := by unfold orb; rw [List.length_map, List.length_range]
theorem lg_rg (o : WOk W) (hx : x ∈ keysS W) : lgc W x = (decide (gl W x ≠ x) && isRg W x) ∧ (lgc W x = true → (lgF W x).1 = (rgF W x).1) := by
  obtain ⟨m, e, hm, h1, h2, h3⟩ := lgF_orb W x
  obtain ⟨m', e', hm', g1, g3⟩ := rgF_orb W x
  have same : itG W (m + 1) x = x → m = m' := fun b => by
    by_cases q : m' < m
    · rcases g3 with g3 | g3 | g3
      · omega
      · exact absurd (h1 (m' + 1) (by omega) (by omega)) g3
      · exact absurd g3 (orb_ne h2 (by omega) (by omega))
    · by_cases q2 : m < m'
      · exact absurd b (g1 (m + 1) (by omega) (by omega)).2
      · omega
  have key : lgc W x = true → m = m' := fun h => by
    unfold lgc at h
    rw [e, Bool.and_eq_true, decide_eq_true_iff] at h
    exact same h.1
  constructor
  · rw [Bool.eq_iff_iff]
    constructor
    · intro h
      have em := key h
      unfold lgc at h
      rw [e, Bool.and_eq_true, Bool.and_eq_true, decide_eq_true_iff, decide_eq_true_iff] at h
      obtain ⟨a, b, c⟩ := h
      have b : 1 < (orb W x (m + 1)).length := b
      rw [orb_len] at b
      rw [Bool.and_eq_true, decide_eq_true_iff]
      refine ⟨fun z => orb_ne h2 (i := 1) (by omega) (by omega) z, ?_⟩
      unfold isRg
      rw [e', ← em, Bool.and_eq_true, decide_eq_true_iff]
      exact ⟨a, c⟩
    · intro h
      rw [Bool.and_eq_true, decide_eq_true_iff] at h
      obtain ⟨a, b⟩ := h
      have rm : x ∈ mvF W := mem_mvF.mpr ⟨hx, a⟩
      have hb := b
      unfold isRg at b
      rw [e', Bool.and_eq_true, decide_eq_true_iff] at b
      obtain ⟨b1, b2⟩ := b
      have b1 : itG W (m' + 1) x = x := b1
      have hr : (rgF W x).1 ∈ rgsF W := mem_rgsF.mpr ⟨x, rm, hb, rfl⟩
      obtain ⟨x2, m2, R, _⟩ := ring_of hr
      have hxr : x ∈ (rgF W x).1 := by obtain ⟨t, ht⟩ := rgF_head W x; rw [ht]; exact List.mem_cons_self
      have mp : 0 < m' := by
        rcases Nat.eq_zero_or_pos m' with z | z
        · subst z; exact absurd b1 a
        · exact z
      have em : m = m' := by
        by_cases q : m' < m
        · exact absurd b1 (orb_ne h2 (by omega) (by omega))
        · by_cases q2 : m < m'
          · rcases h3 with h3 | h3 | h3
            · omega
            · exact absurd (g1 (m + 1) (by omega) (by omega)).1 h3
            · obtain ⟨i, hi, ei⟩ := mem_orb.mp h3
              have nd := R.nodup
              rw [e'] at nd
              have nd : (orb W x (m' + 1)).Nodup := nd
              unfold orb at nd
              rw [List.nodup_iff_pairwise_ne, List.pairwise_map] at nd
              have := List.pairwise_iff_getElem.mp nd i (m + 1) (by rw [List.length_range]; omega) (by rw [List.length_range]; omega) hi
              rw [List.getElem_range, List.getElem_range] at this
              exact absurd ei this
          · omega
      unfold lgc
      rw [e, em, Bool.and_eq_true, Bool.and_eq_true, decide_eq_true_iff, decide_eq_true_iff]
      exact ⟨b1, by show 1 < (orb W x (m' + 1)).length; rw [orb_len]; omega, b2⟩
  · intro h
    rw [e, e', key h]
theorem srtS_filter (l : List Str) (p : Str → Bool) : srtS (l.filter p) = (srtS l).filter p :=
  List.Perm.eq_of_pairwise (le := fun a b => sle a b = true) (fun a b _ _ => sle_anti) (srtS_pair _) ((srtS_pair l).filter p) ((perm_srtS _).trans ((perm_srtS l).filter p).symm)
theorem lgL_rgs (o : WOk W) : lgL W (srtS (keysS W)) = rgsF W := by
  unfold lgL rgsF mvF
  rw [srtS_filter, List.filter_filter]
  have e : (srtS (keysS W)).filter (lgc W) = (srtS (keysS W)).filter fun a => isRg W a && decide (gl W a ≠ a) := by
    refine List.filter_congr fun z hz => ?_
    rw [(lg_rg o (mem_srtS.mp hz)).1, Bool.and_comm]
  rw [← e]
  refine List.map_congr_left fun z hz => ?_
  obtain ⟨h1, h2⟩ := List.mem_filter.mp hz
  exact (lg_rg o (mem_srtS.mp h1)).2 h2
def tlF (W : Wsh) (r : List Str) : List Str := r.filter fun x => decide (gl W x ∈ ((keysS W).filter fun o => decide (o ∉ r)).map (gl W))
theorem tlF_lon : decide (tlF W r = []) = lonF W none r := by
  have e : tlF W r = r.filter fun x => decide (ptF W none r x ≠ []) := by
    refine List.filter_congr fun x hx => ?_
    rw [Bool.eq_iff_iff, decide_eq_true_iff, decide_eq_true_iff]
    constructor
    · intro h e
      obtain ⟨z, hz, ez⟩ := List.mem_map.mp h
      obtain ⟨z1, z2⟩ := List.mem_filter.mp hz
      have : z ∈ ptF W none r x := mem_ptF.mpr ⟨z1, of_decide_eq_true z2, ez, rfl⟩
      rw [e] at this; cases this
    · intro h
      obtain ⟨z, hz⟩ := List.exists_mem_of_ne_nil _ h
      obtain ⟨z1, z2, z3, _⟩ := mem_ptF.mp hz
      exact List.mem_map.mpr ⟨z, List.mem_filter.mpr ⟨z1, decide_eq_true z2⟩, z3⟩
  unfold lonF
  rw [e]
/-! columns -/
def Fun2 (l : List (Str × Str)) : Prop := ∀ p ∈ l, ∀ q ∈ l, p.1 = q.1 → p.2 = q.2
theorem putsS_app (l : List (Str × Str)) (p : Str × Str) : putsS [] (l ++ [p]) = putS (putsS [] l) p.1 p.2 := by
  unfold putsS; rw [List.foldl_append]; rfl
theorem get_puts : ∀ (l acc : List (Str × Str)) (x : Str), x ∉ keysS l → getS (putsS acc l) x = getS acc x
  | [], _, _, _ => rfl
  | p :: l, acc, x, h => by
    show getS (putsS (putS acc p.1 p.2) l) x = _
    have h' : x ≠ p.1 ∧ x ∉ keysS l := ⟨fun e => h (by rw [e]; exact List.mem_cons_self), fun e => h (List.mem_cons_of_mem _ e)⟩
    rw [get_puts l _ x h'.2, getS_put, if_neg h'.1]
theorem mem_puts : ∀ (l acc : List (Str × Str)) (x : Str), x ∈ keysS l → ∃ v, getS (putsS acc l) x = some v ∧ (x, v) ∈ l
  | [], _, _, h => by cases h
  | p :: l, acc, x, h => by
    show ∃ v, getS (putsS (putS acc p.1 p.2) l) x = some v ∧ _
    by_cases q : x ∈ keysS l
    · obtain ⟨v, h1, h2⟩ := mem_puts l (putS acc p.1 p.2) x q
      exact ⟨v, h1, List.mem_cons_of_mem _ h2⟩
    · have e : x = p.1 := (List.mem_cons.mp (show x ∈ p.1 :: keysS l from h)).resolve_right q
      rw [get_puts l _ x q, getS_put, if_pos e]
      exact ⟨p.2, rfl, by rw [e]; exact List.mem_cons_self⟩
/-- one more pair is alike -/
theorem fun2_app {l : List (Str × Str)} {p : Str × Str} (h : Fun2 l) : Fun2 (l ++ [p]) ↔ (getS (putsS [] l) p.1).getD p.2 = p.2 := by
  by_cases q : p.1 ∈ keysS l
  · obtain ⟨v, h1, h2⟩ := mem_puts l [] p.1 q
    rw [h1]
    show _ ↔ v = p.2
    constructor
    · intro f
      exact f (p.1, v) (List.mem_append_left _ h2) p (by simp) rfl
    · intro e a ha b hb ab
      rcases List.mem_append.mp ha with ha | ha <;> rcases List.mem_append.mp hb with hb | hb
      · exact h a ha b hb ab
      · rw [List.mem_singleton.mp hb] at ab ⊢
        rw [← e]; exact h a ha (p.1, v) h2 ab
      · rw [List.mem_singleton.mp ha] at ab ⊢
        rw [← e]; exact h (p.1, v) h2 b hb ab
      · rw [List.mem_singleton.mp ha, List.mem_singleton.mp hb]
  · rw [get_puts l [] p.1 q]
    refine ⟨fun _ => rfl, fun _ a ha b hb ab => ?_⟩
    have no : ∀ a ∈ l, a.1 ≠ p.1 := fun a ha e => q (e ▸ List.mem_map.mpr ⟨a, ha, rfl⟩)
    rcases List.mem_append.mp ha with ha | ha <;> rcases List.mem_append.mp hb with hb | hb
    · exact h a ha b hb ab
    · rw [List.mem_singleton.mp hb] at ab; exact absurd ab (no a ha)
    · rw [List.mem_singleton.mp ha] at ab; exact absurd ab.symm (no b hb)
    · rw [List.mem_singleton.mp ha, List.mem_singleton.mp hb]
theorem fun2_gl {l : List (Str × Str)} (h : Fun2 l) {p : Str × Str} (hp : p ∈ l) : gl (putsS [] l) p.1 = p.2 := by
  obtain ⟨v, h1, h2⟩ := mem_puts l [] p.1 (List.mem_map.mpr ⟨p, hp, rfl⟩)
  unfold gl
  rw [h1]
  exact h (p.1, v) h2 p hp rfl
end
end Vl
namespace Vl
open PySem PySem.Spec L2
open PyProof.Rows hiding St

/-! ### the new labels of shortest scripts are allowed -/
def MayA (A : Alw) (ms : List Stp) : Prop := ∀ m ∈ ms, mayF A m.2 = true
section
variable {W : Wsh} {A : Alw} {x y p : Str} {r : List Str}
theorem MayA.app {a b : List Stp} (h : MayA A a) (h' : MayA A b) : MayA A (a ++ b) := fun m hm => (List.mem_append.mp hm).elim (h m) (h' m)
theorem may_brF (hg : ∀ x ∈ mvF W, mayF A (gl W x) = true) (hr : r ∈ rgsF W) (hp : mayF A p = true) : MayA A (brF W r x p) := fun m hm => by
  obtain ⟨x0, m0, R, _⟩ := ring_of hr
  unfold brF at hm
  rcases List.mem_cons.mp hm with e | hm
  · rw [e]; exact hp
  · obtain ⟨b, hb, rfl⟩ := List.mem_map.mp hm
    have hy := getD_mod (r := r) (i := r.idxOf x + r.length - (b + 1)) (rgsF_ne hr)
    exact hg _ (mem_mvF.mpr ⟨R.key hy, R.moves hy⟩)
theorem may_tnF (hg : ∀ x ∈ mvF W, mayF A (gl W x) = true) {rs : List (List Str)} (hr : ∀ r ∈ rs, r ∈ rgsF W) (hp : mayF A p = true) : MayA A (tnF W rs p) := fun m hm => by
  unfold tnF at hm
  obtain ⟨r, h1, h2⟩ := List.mem_flatMap.mp hm
  rcases List.mem_append.mp h2 with h2 | h2
  · exact may_brF hg (hr r h1) hp m h2
  · obtain ⟨x0, m0, R, _⟩ := ring_of (hr r h1)
    have hy := head_mem (rgsF_ne (hr r h1))
    rw [List.mem_singleton.mp h2]
    exact hg _ (mem_mvF.mpr ⟨R.key hy, R.moves hy⟩)
theorem may_step (hg : ∀ x ∈ mvF W, mayF A (gl W x) = true) {st : List Stp × List (List Str)} (hr : r ∈ rgsF W) (h : MayA A st.1) (ha : ∀ r ∈ st.2, r ∈ rgsF W) : MayA A (scStep W A st r).1 ∧ ∀ z ∈ (scStep W A st r).2, z ∈ rgsF W := by
  unfold scStep
  cases e : adF W A r with
  | none => exact ⟨h, ha⟩
  | some q =>
    obtain ⟨q1, q2⟩ := adF_some e
    obtain ⟨_, _, _, hm⟩ := mem_ptF.mp q2
    have hb := may_brF (x := q.1) hg hr hm
    obtain ⟨x0, m0, R, _⟩ := ring_of hr
    refine ⟨((h.app fun m hm => hb m (List.mem_of_mem_take hm)).app ?_).app fun m hm => hb m (List.mem_of_mem_drop hm), fun _ h => by cases h⟩
    have : mayF A q.1 = true := by
      obtain ⟨z, hz, ez⟩ := R.prev q1
      rw [← ez]
      exact hg z (mem_mvF.mpr ⟨R.key hz, R.moves hz⟩)
    exact may_tnF hg ha this
theorem may_fold (hg : ∀ x ∈ mvF W, mayF A (gl W x) = true) : ∀ (L : List (List Str)) (st : List Stp × List (List Str)), (∀ r ∈ L, r ∈ rgsF W) → MayA A st.1 → (∀ r ∈ st.2, r ∈ rgsF W) → MayA A (L.foldl (scStep W A) st).1
  | [], st, _, h, _ => h
  | r :: L, st, hL, h, ha => by
    obtain ⟨h1, h2⟩ := may_step hg (hL r List.mem_cons_self) h ha
    exact may_fold hg L _ (fun r hr => hL r (List.mem_cons_of_mem _ hr)) h1 h2
theorem may_out (o : WOk W) (hg : ∀ x ∈ mvF W, mayF A (gl W x) = true) : ∀ (n : Nat) {ms : List Stp} {rest : List Str} {al : List (List Str)}, OutOk W A al rest → MayA A ms → MayA A (outGo W A n ms rest al) := by
  intro n
  induction n with
  | zero => intro ms rest al _ h; exact h
  | succ n ih =>
    intro ms rest al hk h
    rw [outGo]
    by_cases q : rest = []
    · rw [if_pos q]; exact h
    · rw [if_neg q]
      obtain ⟨t, e1, hb⟩ := hk.pick o q
      generalize pickF W rest al = b at hb
      obtain ⟨s1, s2, _⟩ := hk.sub b hb
      have h1 : MayA A (ms ++ [(b, gl W b)]) := h.app fun m hm => by
        rw [List.mem_singleton.mp hm]
        exact hg b (mem_mvF.mpr ⟨s1, s2⟩)
      by_cases qm : mayF A b = true
      · rw [if_pos qm]
        exact ih hk.nxt0 (h1.app (may_tnF hg hk.rgs qm))
      · rw [if_neg qm]
        exact ih (hk.nxt (by simpa using qm)) h1
theorem scF_may (o : WOk W) (hg : ∀ x ∈ mvF W, mayF A (gl W x) = true) (hf : ∀ p, freF W A = some p → mayF A p = true) (h : OutOk W A (scP W A).2 (outL W)) : MayA A (scF W A) := by
  unfold scF outF
  refine MayA.app ?_ (may_out o hg _ h fun _ h => by cases h)
  unfold scP scIni
  cases e : freF W A with
  | none => exact may_fold hg _ _ (fun _ h => h) (fun _ h => by cases h) al0_sub
  | some p => exact may_fold hg _ _ (fun _ h => h) (may_tnF hg al0_sub (hf p e)) fun _ h => by cases h
/-- all that is asked of a shortest script, when nothing hinders -/
theorem hin_bad (h : hinF W A = .no) : badF W A = [] := by
  unfold hinF at h
  split at h
  · cases h
  · assumption
structure GoodS (W : Wsh) (A : Alw) (ms : List Stp) : Prop where
  scr : IsScr ms
  may : MayA A ms
  right : ∀ x ∈ keysS W, imgF ms x = gl W x
  size : ms.length = (mvF W).length + (lnF W A).length
theorem scF_good (o : WOk W) (oA : AOk A) (hW : W.length ≤ 60) (h : hinF W A = .no) : GoodS W A (scF W A) := by
  have out := sc_ok_no oA hW h
  exact ⟨(scF_scr o oA hW out).1, scF_may o (fun x hx => badF_nil (hin_bad h) hx) (fun p e => (freF_lab oA hW e).2.2) out, scF_right o (fun p e => (freF_lab oA hW e).2.1) out, scF_size o out⟩
end
end Vl
namespace Vl
open PySem PySem.Spec L2
open PyProof.Rows hiding St

/-! ### lonely rings told by their tails -/
section
variable {W : Wsh} {A : Alw} {x y p : Str} {r : List Str}
def tailsF (W : Wsh) (r : List Str) : List Str := (keysS W).filter fun o => decide (o ∉ r) && decide (gl W o ∈ r)
theorem tails_lon (hr : r ∈ rgsF W) : decide ((tailsF W r).filter (mayF A) = []) = lonF W A r := by
  obtain ⟨x0, m, R, _⟩ := ring_of hr
  unfold lonF
  rw [Bool.eq_iff_iff, decide_eq_true_iff, decide_eq_true_iff, List.filter_eq_nil_iff, List.filter_eq_nil_iff]
  constructor
  · intro h z hz q
    obtain ⟨o, ho⟩ := List.exists_mem_of_ne_nil _ (of_decide_eq_true q)
    obtain ⟨h1, h2, h3, h4⟩ := mem_ptF.mp ho
    refine h o (List.mem_filter.mpr ⟨h1, ?_⟩) h4
    rw [Bool.and_eq_true, decide_eq_true_iff, decide_eq_true_iff]
    exact ⟨h2, by rw [h3]; exact R.next hz⟩
  · intro h o ho q
    obtain ⟨h1, h2⟩ := List.mem_filter.mp ho
    rw [Bool.and_eq_true, decide_eq_true_iff, decide_eq_true_iff] at h2
    obtain ⟨z, hz, ez⟩ := R.prev h2.2
    exact h z hz (decide_eq_true (List.ne_nil_of_mem (mem_ptF.mpr ⟨h1, h2.1, ez.symm, q⟩)))
end
end Vl
namespace Vl
open PySem PySem.Spec L2
open PyProof.Rows hiding St

/-! ### the order in which a wish is put in changes nothing -/
section
variable {W V : Wsh} {A : Alw} {x y p : Str} {r : List Str}
/-- the same map, put in in another order -/
structure Alike (W V : Wsh) : Prop where
  pm : (keysS W).Perm (keysS V)
  gl : ∀ x, gl W x = gl V x
theorem Alike.ln (h : Alike W V) : W.length = V.length := by
  have := h.pm.length_eq
  rwa [len_keysS, len_keysS] at this
theorem Alike.key (h : Alike W V) : x ∈ keysS W ↔ x ∈ keysS V := h.pm.mem_iff
theorem Alike.mv (h : Alike W V) : mvF W = mvF V := by
  unfold mvF
  refine srtS_perm ?_
  have e : (keysS W).filter (fun x => decide (Vl.gl W x ≠ x)) = (keysS W).filter fun x => decide (Vl.gl V x ≠ x) := List.filter_congr fun x _ => by rw [h.gl]
  rw [e]
  exact h.pm.filter _
theorem Alike.rgGo (h : Alike W V) (x : Str) : ∀ (n : Nat) (r : List Str) (a : Str), Vl.rgGo W x n r a = Vl.rgGo V x n r a
  | 0, _, _ => rfl
  | n + 1, r, a => by
    rw [Vl.rgGo, Vl.rgGo, h.gl, Alike.rgGo h x n]
    by_cases q : a ∈ keysS W ∧ a ≠ x
    · rw [if_pos q, if_pos ⟨h.key.mp q.1, q.2⟩]
    · rw [if_neg q, if_neg fun z => q ⟨h.key.mpr z.1, z.2⟩]
theorem Alike.rg (h : Alike W V) (x : Str) : rgF W x = rgF V x := by unfold rgF; rw [h.ln, h.gl, h.rgGo]
theorem Alike.rgs (h : Alike W V) : rgsF W = rgsF V := by
  unfold rgsF
  have e1 : (fun x => isRg W x) = fun x => isRg V x := funext fun x => by unfold isRg; rw [h.rg]
  have e2 : (fun x => (rgF W x).1) = fun x => (rgF V x).1 := funext fun x => by rw [h.rg]
  rw [h.mv]
  show ((mvF V).filter (fun x => isRg W x)).map _ = ((mvF V).filter (fun x => isRg V x)).map _
  rw [e1, e2]
theorem Alike.pt (h : Alike W V) (r : List Str) (x : Str) : ptF W A r x = ptF V A r x := by
  unfold ptF
  refine srtS_perm (List.Perm.filter _ ?_)
  have e : (keysS W).filter (fun o => decide (o ∉ r) && decide (Vl.gl W o = Vl.gl W x)) = (keysS W).filter fun o => decide (o ∉ r) && decide (Vl.gl V o = Vl.gl V x) := List.filter_congr fun o _ => by rw [h.gl, h.gl]
  rw [e]
  exact h.pm.filter _
theorem Alike.ad (h : Alike W V) (r : List Str) : adF W A r = adF V A r := by
  unfold adF
  have e1 : (fun x => decide (ptF W A r x ≠ [])) = fun x => decide (ptF V A r x ≠ []) := funext fun x => by rw [h.pt]
  have e2 : (fun x => (x, (ptF W A r x).headD "")) = fun x => (x, (ptF V A r x).headD "") := funext fun x => by rw [h.pt]
  rw [e1, e2]
theorem Alike.fre (h : Alike W V) : freF W A = freF V A := by
  have ek : ∀ x, decide (x ∉ keysS W) = decide (x ∉ keysS V) := fun x => decide_eq_decide.mpr (not_congr h.key)
  unfold freF
  cases A with
  | some l =>
    show (l.filter fun x => decide (x ∉ keysS W)).head? = (l.filter fun x => decide (x ∉ keysS V)).head?
    rw [show (fun x => decide (x ∉ keysS W)) = fun x => decide (x ∉ keysS V) from funext ek]
  | none =>
    show ((nmsF W.length).filter fun x => decide (x ∉ keysS W) && decide (x ∉ (keysS W).map (Vl.gl W))).head? = ((nmsF V.length).filter fun x => decide (x ∉ keysS V) && decide (x ∉ (keysS V).map (Vl.gl V))).head?
    have eg : ∀ x, decide (x ∉ (keysS W).map (Vl.gl W)) = decide (x ∉ (keysS V).map (Vl.gl V)) := fun x => decide_eq_decide.mpr (not_congr (by
      rw [show Vl.gl W = Vl.gl V from funext h.gl]
      exact (h.pm.map _).mem_iff))
    rw [h.ln, show (fun x => decide (x ∉ keysS W) && decide (x ∉ (keysS W).map (Vl.gl W))) = fun x => decide (x ∉ keysS V) && decide (x ∉ (keysS V).map (Vl.gl V)) from funext fun x => by rw [ek, eg]]
theorem Alike.br (h : Alike W V) (r : List Str) (x p : Str) : brF W r x p = brF V r x p := by
  unfold brF
  congr 1
  refine List.map_congr_left fun b _ => ?_
  rw [h.gl]
theorem Alike.tn (h : Alike W V) (rs : List (List Str)) (p : Str) : tnF W rs p = tnF V rs p := by
  unfold tnF
  rw [show (fun r => brF W r (r.headD "") p ++ [(p, Vl.gl W (r.headD ""))]) = fun r => brF V r (r.headD "") p ++ [(p, Vl.gl V (r.headD ""))] from funext fun r => by rw [h.br, h.gl]]
theorem Alike.al0 (h : Alike W V) : al0F W A = al0F V A := by
  unfold al0F
  rw [h.rgs, show (fun r => (adF W A r).isNone) = fun r => (adF V A r).isNone from funext fun r => by rw [h.ad]]
theorem Alike.ini (h : Alike W V) : scIni W A = scIni V A := by
  unfold scIni
  rw [h.fre, h.al0]
  cases freF V A with
  | none => rfl
  | some p => show (tnF W _ p, _) = (tnF V _ p, _); rw [h.tn]
theorem Alike.step (h : Alike W V) : scStep W A = scStep V A := by
  funext st r
  unfold scStep
  rw [h.ad]
  cases adF V A r with
  | none => rfl
  | some q => show (_ ++ tnF W _ _ ++ _, _) = (_ ++ tnF V _ _ ++ _, _); rw [h.tn, h.br]
theorem Alike.scP (h : Alike W V) : Vl.scP W A = Vl.scP V A := by
  unfold Vl.scP
  rw [h.rgs, h.ini, h.step]
theorem Alike.out (h : Alike W V) : outL W = outL V := by
  unfold outL
  rw [h.mv, h.rgs]
theorem Alike.pick (h : Alike W V) (rest : List Str) (al : List (List Str)) : pickF W rest al = pickF V rest al := by
  unfold pickF
  rw [show (fun x => decide (Vl.gl W x ∉ waitF rest al)) = fun x => decide (Vl.gl V x ∉ waitF rest al) from funext fun x => by rw [h.gl]]
theorem Alike.outGo (h : Alike W V) : ∀ (n : Nat) (ms : List Stp) (rest : List Str) (al : List (List Str)), Vl.outGo W A n ms rest al = Vl.outGo V A n ms rest al
  | 0, _, _, _ => rfl
  | n + 1, ms, rest, al => by
    rw [Vl.outGo, Vl.outGo, h.pick, h.gl, h.tn, Alike.outGo h n, Alike.outGo h n]
theorem Alike.scF (h : Alike W V) : Vl.scF W A = Vl.scF V A := by
  unfold Vl.scF outF
  rw [h.scP, h.out, h.outGo]
theorem Alike.lon (h : Alike W V) (r : List Str) : lonF W A r = lonF V A r := by
  unfold lonF
  rw [show (fun x => decide (ptF W A r x ≠ [])) = fun x => decide (ptF V A r x ≠ []) from funext fun x => by rw [h.pt]]
theorem Alike.lnF (h : Alike W V) : Vl.lnF W A = Vl.lnF V A := by
  unfold Vl.lnF
  rw [h.rgs, show lonF W A = lonF V A from funext h.lon]
theorem Alike.hin (h : Alike W V) : hinF W A = hinF V A := by
  have eb : badF W A = badF V A := by
    unfold badF
    rw [h.mv, show (fun x => !mayF A (Vl.gl W x)) = fun x => !mayF A (Vl.gl V x) from funext fun x => by rw [h.gl], show Vl.gl W = Vl.gl V from funext h.gl]
  have er : ∀ rs, rmF W A rs = rmF V A rs := fun rs => by
    unfold rmF
    cases A with
    | none => rfl
    | some l =>
      show decide (l.filter (rmP W rs.flatten) ≠ []) = decide (l.filter (rmP V rs.flatten) ≠ [])
      have : rmP W rs.flatten = rmP V rs.flatten := funext fun x => by
        unfold rmP
        rw [h.gl, show decide (x ∉ keysS W) = decide (x ∉ keysS V) from decide_eq_decide.mpr (not_congr h.key)]
      rw [this]
  unfold hinF
  rw [eb, h.lnF]
  cases badF V A with
  | cons g t => rfl
  | nil =>
    cases Vl.lnF V A with
    | nil => rfl
    | cons r t => show (if rmF W A _ = true then _ else _) = (if rmF V A _ = true then _ else _); rw [er]
end
end Vl
namespace Vl
open PySem PySem.Spec L2
open PyProof.Rows hiding St

/-! ### names exchanged in a script -/
def renS (f : Str → Str) (ms : List Stp) : List Stp := ms.map fun m => (f m.1, f m.2)
theorem imgF_ren {f : Str → Str} {L : List Str} (inj : ∀ a ∈ L, ∀ b ∈ L, f a = f b → a = b) : ∀ (ms : List Stp) (x : Str), (∀ m ∈ ms, m.1 ∈ L ∧ m.2 ∈ L) → x ∈ L → imgF (renS f ms) (f x) = f (imgF ms x) ∧ imgF ms x ∈ L
  | [], x, _, hx => ⟨rfl, hx⟩
  | m :: ms, x, h, hx => by
    obtain ⟨h1, h2⟩ := h m List.mem_cons_self
    have h' : ∀ m ∈ ms, m.1 ∈ L ∧ m.2 ∈ L := fun z hz => h z (List.mem_cons_of_mem _ hz)
    show imgF ((f m.1, f m.2) :: renS f ms) (f x) = _ ∧ _
    rw [imgF_cons, imgF_cons]
    by_cases q : x = m.1
    · rw [if_pos (show f x = f m.1 by rw [q]), if_pos q]
      exact imgF_ren inj ms m.2 h' h2
    · rw [if_neg (fun e : f x = f m.1 => q (inj x hx m.1 h1 e)), if_neg q]
      exact imgF_ren inj ms x h' hx
end Vl
namespace Vl
open PySem PySem.Spec L2
open PyProof.Rows hiding St

/-! ### lending, where tuples may stand in what is given back -/
mutual
def flat1 : D → Bool
  | .lst _ | .dic _ => false
  | .tup ds => flat1L ds
  | _ => true
def flat1L : List D → Bool
  | [] => true
  | d :: ds => flat1 d && flat1L ds
end
def flC1 : C → Bool
  | .lst xs => flat1L xs
  | .dic kvs => flat1L (kvs.map (·.2))
def ownFl1 : SV → Bool
  | .own c => flC1 c
  | _ => true
section
variable {B : Hp} {R : Addr → Prop} {w w' : Wd} {σ : L2.St} {H : Hp} {ss : SS}
mutual
theorem flat1_rep (hc : w'.cs = w.cs) (hT : ∀ b u, w.F b = some (.tup u) → w'.F b = some (.tup u)) : ∀ {d : D} {v : V}, flat1 d = true → Rep w d v → Rep w' d v
  | .lst _, _, h, _ => by cases h
  | .dic _, _, h, _ => by cases h
  | .tup ds, _, h, ⟨a, vs, e, h1, h2⟩ => ⟨a, vs, e, hT _ _ h1, flat1_repL hc hT h h2⟩
  | .loc _, _, _, ⟨a, e1, e2⟩ => ⟨a, e1, by rw [hc]; exact e2⟩
  | .non, _, _, r => r
  | .bl _, _, _, r => r
  | .int _, _, _, r => r
  | .str _, _, _, r => r
  | .raw _, _, _, r => r
theorem flat1_repL (hc : w'.cs = w.cs) (hT : ∀ b u, w.F b = some (.tup u) → w'.F b = some (.tup u)) : ∀ {ds : List D} {vs : List V}, flat1L ds = true → RepL w ds vs → RepL w' ds vs
  | [], _, _, h => h
  | d :: ds, _, h, ⟨v, us, e, h1, h2⟩ => by
    rw [flat1L, Bool.and_eq_true] at h
    exact ⟨v, us, e, flat1_rep hc hT h.1 h1, flat1_repL hc hT h.2 h2⟩
end
theorem flat1_repK (hc : w'.cs = w.cs) (hT : ∀ b u, w.F b = some (.tup u) → w'.F b = some (.tup u)) : ∀ {ds : List (Key × D)} {vs : List (Key × V)}, flat1L (ds.map (·.2)) = true → RepK w ds vs → RepK w' ds vs
  | [], _, _, h => h
  | (k, d) :: ds, _, h, ⟨v, us, e, h1, h2⟩ => by
    rw [List.map_cons, flat1L, Bool.and_eq_true] at h
    exact ⟨v, us, e, flat1_rep hc hT h.1 h1, flat1_repK hc hT h.2 h2⟩
theorem flC1_cel {c : C} {a : Addr} (h : flC1 c = true) (hc : w'.cs = w.cs) (hT : ∀ b u, w.F b = some (.tup u) → w'.F b = some (.tup u)) (x : Cel w H a c) : Cel w' H a c := by
  cases c with
  | lst xs => obtain ⟨vs, e, r⟩ := x; exact ⟨vs, e, flat1_repL hc hT h r⟩
  | dic kvs => obtain ⟨vs, e, r⟩ := x; exact ⟨vs, e, flat1_repK hc hT h r⟩
/-- .. and taken back -/
theorem thaw1 (o : Ok B R w σ H ss) {i : Nat} {xs : List D} {vs : List V} (hi : ss.r[i]? = some (.own (.lst xs))) (rl : RepL w xs vs) {w2 : Wd} {H2 : Hp} {S2 : List C}
    (o2 : Ok (upd B (w.os i) (.lst vs)) R w2 σ H2 { r := ss.r.set i (.val (.lst xs)), S := S2 }) (ex : Ext (frzF w (w.os i) (.lst vs)) w2) (hS : S2.all flC1 = true) (ho : (ss.r.set i .no).all ownFl1 = true) :
    Ok B R (thawW w w2 (w.os i)) σ H2 { r := ss.r, S := S2 } ∧ Ext w (thawW w w2 (w.os i)) ∧ (∀ b u, w2.F b = some (.tup u) → (thawW w w2 (w.os i)).F b = some (.tup u)) := by
  obtain ⟨h1, h2, h3, h4, h5, h6⟩ := o.ow i _ hi
  have il : i < ss.r.length := (List.getElem?_eq_some_iff.mp hi).1
  have Fa : w2.F (w.os i) = some (.lst vs) := ex.F _ _ upd_same
  have tF : ∀ b, b ≠ w.os i → (thawW w w2 (w.os i)).F b = w2.F b := fun b nb => if_neg nb
  have tA : (thawW w w2 (w.os i)).F (w.os i) = none := if_pos rfl
  have none_of : ∀ b, w2.F b = none → (thawW w w2 (w.os i)).F b = none := fun b hb => by
    by_cases z : b = w.os i
    · rw [z]; exact tA
    · rw [tF b z]; exact hb
  have e3 : Ext w (thawW w w2 (w.os i)) := ⟨fun b u hb => by
    have nb : b ≠ w.os i := fun z => by rw [z, h3] at hb; cases hb
    rw [tF b nb]
    exact ex.F b u (by show upd w.F (w.os i) _ b = some u; rw [upd_ne nb]; exact hb), fun n b hb => ex.cs n b hb⟩
  have osj : ∀ j c, j ≠ i → ss.r[j]? = some (.own c) → w2.os j = w.os j ∧ Cel w2 H2 (w.os j) c ∧ w2.F (w.os j) = none ∧ B (w.os j) = none ∧ ¬ R (w.os j) ∧ w.os j ∉ w2.cs := fun j c ne q => by
    obtain ⟨b1, b2, b3, b4, b5, b6⟩ := o2.ow j c (by show (ss.r.set i _)[j]? = _; rw [List.getElem?_set_ne (fun z => ne z.symm)]; exact q)
    obtain ⟨a1, _, _, a4, _, _⟩ := o.ow j c q
    rw [a1] at b1
    have eo : w.os j = w2.os j := V.ref.inj (Option.some.inj (Option.some.inj b1))
    rw [← eo] at b2 b3 b5 b6
    exact ⟨eo.symm, b2, b3, a4, b5, b6⟩
  have osn : ∀ j c, j ≠ i → ss.r[j]? = some (.own c) → w.os j ≠ w.os i := fun j c ne q z => ne (o.oi j i c _ q hi z)
  have fl : ∀ j c, j ≠ i → ss.r[j]? = some (.own c) → flC1 c = true := fun j c ne q => by
    have : (SV.own c) ∈ ss.r.set i .no := List.mem_of_getElem? (i := j) (by rw [List.getElem?_set_ne (fun z => ne z.symm)]; exact q)
    exact List.all_eq_true.mp ho _ this
  have ca : w.os i ∉ w2.cs := fun m => by have := (o2.cf _ m).1; rw [Fa] at this; cases this
  have hT : ∀ b u, w2.F b = some (.tup u) → (thawW w w2 (w.os i)).F b = some (.tup u) := fun b u hb => by
    have nb : b ≠ w.os i := fun z => by rw [z, Fa] at hb; cases hb
    rw [tF b nb]; exact hb
  refine ⟨?_, e3, hT⟩
  · refine ⟨fun b x h => ?_, fun b x h => ?_, fun b r => ?_, fun j d q => ?_, fun j c q => ?_, fun j k c c' q q' e => o.oi j k c c' q q' e, fun n c q => ?_, o2.cl, fun b m => ?_, o2.cn, o.ln⟩
    · have nb : b ≠ w.os i := fun z => by rw [z] at h; rw [tA] at h; cases h
      exact o2.le b x (by rw [← tF b nb]; exact h)
    · exact o2.bs b x (by rw [upd_ne (fun z : b = w.os i => by rw [z, h4] at h; cases h)]; exact h)
    · obtain ⟨a1, a2, a3⟩ := o2.rs b r
      exact ⟨none_of b a1, a2, a3⟩
    · obtain ⟨v, v1, v2⟩ := o.vl j d q
      exact ⟨v, v1, v2.ext e3⟩
    · by_cases ne : j = i
      · subst ne
        rw [hi] at q; cases q
        exact ⟨h1, ⟨vs, o2.bs _ _ upd_same, rl.ext e3⟩, tA, h4, h5, ca⟩
      · obtain ⟨g1, g2, g3, g4, g5, g6⟩ := osj j c ne q
        obtain ⟨a1, _⟩ := o.ow j c q
        exact ⟨a1, flC1_cel (w := w2) (w' := thawW w w2 (w.os i)) (fl j c ne q) rfl hT g2, none_of _ g3, g4, g5, g6⟩
    · obtain ⟨b, b1, b2⟩ := o2.ce n c q
      exact ⟨b, b1, flC1_cel (w := w2) (w' := thawW w w2 (w.os i)) (List.all_eq_true.mp hS _ (List.mem_of_getElem? q)) rfl hT b2⟩
    · obtain ⟨b1, b2⟩ := o2.cf b m
      exact ⟨none_of b b1, by rw [upd_ne (fun z : b = w.os i => ca (z ▸ m))] at b2; exact b2⟩
end
section
variable {X : Cx} {e : Expr} {f : WE}
def pkO1 (i : Nat) (f : WE) (x : Option SV) (ss : SS) (G : Re → SS → Prop) : Prop := match x with
  | some (.own (.lst xs)) => f { ss with r := ss.r.set i (.val (.lst xs)) } fun r s => ∃ d, r = .val d ∧ flat1 d = true ∧ s.r = ss.r.set i (.val (.lst xs)) ∧ s.S.all flC1 = true ∧ (ss.r.set i .no).all ownFl1 = true ∧ G (.val d) { r := ss.r, S := s.S }
  | _ => False
def fPkT (i : Nat) (f : WE) : WE := fun ss G => pkO1 i f ss.r[i]? ss G
theorem de_peekT (i : Nat) (h : DE X e f) : DE X e (fPkT i f) := by
  obtain ⟨t, p, hf⟩ := h
  refine ⟨t, p, fun B R w σ H ss G Q o hw hq => ?_⟩
  unfold fPkT pkO1 at hw
  split at hw
  · rename_i xs ei
    obtain ⟨h1, ⟨vs, hl, rl⟩, h3, h4, h5, h6⟩ := o.ow i _ ei
    refine hf _ R _ σ H _ _ Q (lend o ei hl rl) hw fun v H2 r s2 w2 o2 r2 e2 ⟨d, er, fd, es, fS, fo, g⟩ => ?_
    obtain ⟨r2', S2⟩ := s2
    have es : r2' = ss.r.set i (.val (.lst xs)) := es
    subst es
    subst er
    obtain ⟨o3, e3, hT⟩ := thaw1 o ei rl o2 e2 fS fo
    exact hq v H2 (.val d) _ _ o3 (flat1_rep (w := w2) (w' := thawW w w2 (w.os i)) rfl hT fd r2) e3 g
  · exact hw.elim
theorem x_pkO1 {i : Nat} {xs : List D} {ss : SS} {G : Re → SS → Prop} : pkO1 i f (some (.own (.lst xs))) ss G = f { ss with r := ss.r.set i (.val (.lst xs)) } fun r s => ∃ d, r = .val d ∧ flat1 d = true ∧ s.r = ss.r.set i (.val (.lst xs)) ∧ s.S.all flC1 = true ∧ (ss.r.set i .no).all ownFl1 = true ∧ G (.val d) { r := ss.r, S := s.S } := propext Iff.rfl
end
end Vl
namespace Vl
open PySem PySem.Spec L2
open PyProof.Rows hiding St

/-! ### all origins, one behind the other -/
theorem snoc_rec {α : Type} {motive : List α → Prop} (nil : motive []) (snoc : ∀ P l, motive P → motive (P ++ [l])) (P : List α) : motive P := by
  rw [← P.reverse_reverse]
  induction P.reverse with
  | nil => exact nil
  | cons l t ih => rw [List.reverse_cons]; exact snoc _ _ ih
def pS (ms : List Stp) (ws : List Str) (c : Str) : List Str := ws.filter fun x => decide (imgF ms x = c)
def allP (P : List (List Str)) : List (List Str) := P.foldl (fun f l => f.flatMap fun row => l.map fun w => row ++ [w]) [[]]
def decP (P : List (List Str)) (n : Nat) : List Str := (nthGo P.reverse n).reverse
theorem allP_snoc (P : List (List Str)) (l : List Str) : allP (P ++ [l]) = (allP P).flatMap fun row => l.map fun w => row ++ [w] := by
  unfold allP; rw [List.foldl_append]; rfl
theorem decP_snoc (P : List (List Str)) (l : List Str) (n : Nat) : decP (P ++ [l]) n = decP P (n / l.length) ++ [l.getD (n % l.length) ""] := by
  unfold decP; rw [List.reverse_append]; simp [nthGo]
theorem len_decP (P : List (List Str)) (n : Nat) : (decP P n).length = P.length := by
  unfold decP; rw [List.length_reverse, len_nthGo, List.length_reverse]
theorem prodN_snoc (l : List Nat) (k : Nat) : prodN (l ++ [k]) = prodN l * k := by unfold prodN; rw [List.foldl_append]; rfl
theorem len_flat {α β : Type} (f : α → List β) (k : Nat) (h : ∀ a, (f a).length = k) : ∀ l : List α, (l.flatMap f).length = l.length * k
  | [] => by simp
  | a :: l => by rw [List.flatMap_cons, List.length_append, h, len_flat f k h l, List.length_cons, Nat.succ_mul, Nat.add_comm]
theorem get_flat {α β : Type} (f : α → List β) (k : Nat) (h : ∀ a, (f a).length = k) (hk : 0 < k) : ∀ (l : List α) (n : Nat), (l.flatMap f)[n]? = (l[n / k]?).bind fun a => (f a)[n % k]?
  | [], n => by simp
  | a :: l, n => by
    rw [List.flatMap_cons]
    by_cases q : n < k
    · rw [List.getElem?_append_left (by rw [h]; exact q), Nat.div_eq_of_lt q, Nat.mod_eq_of_lt q]; rfl
    · rw [List.getElem?_append_right (by rw [h]; omega), h, get_flat f k h hk l]
      have e1 : n / k = (n - k) / k + 1 := by
        conv => lhs; rw [show n = (n - k) + k by omega]
        rw [Nat.add_div_right _ hk]
      have e2 : n % k = (n - k) % k := by
        conv => lhs; rw [show n = (n - k) + k by omega]
        rw [Nat.add_mod_right]
      rw [e1, e2, List.getElem?_cons_succ]
theorem len_allP (P : List (List Str)) : (allP P).length = prodN (P.map List.length) := by
  induction P using snoc_rec with
  | nil => rfl
  | snoc P l ih =>
    rw [allP_snoc, len_flat (k := l.length) _ (by intro a; rw [List.length_map]), ih, List.map_append, List.map_singleton, prodN_snoc]
theorem get_allP (P : List (List Str)) : ∀ n, n < prodN (P.map List.length) → (allP P)[n]? = some (decP P n) := by
  induction P using snoc_rec with
  | nil =>
    intro n hn
    have : n = 0 := by have : prodN (([] : List (List Str)).map List.length) = 1 := rfl; omega
    subst this; rfl
  | snoc P l ih =>
    intro n hn
    rw [List.map_append, List.map_singleton, prodN_snoc] at hn
    have hk : 0 < l.length := Nat.pos_of_ne_zero fun z => by rw [z, Nat.mul_zero] at hn; omega
    rw [allP_snoc, get_flat (k := l.length) _ (by intro a; rw [List.length_map]) hk, ih _ (Nat.div_lt_of_lt_mul (by rw [Nat.mul_comm]; exact hn)), decP_snoc]
    show (l.map _)[n % l.length]? = _
    have hm : n % l.length < l.length := Nat.mod_lt _ hk
    rw [List.getElem?_map, List.getElem?_eq_getElem hm, List.getD_eq_getElem?_getD, List.getElem?_eq_getElem hm]; rfl
theorem allP_row {P : List (List Str)} : ∀ {r : List Str}, r ∈ allP P → r.length = P.length := by
  induction P using snoc_rec with
  | nil => intro r h; rw [show r = [] from List.mem_singleton.mp h]; rfl
  | snoc P l ih =>
    intro r h
    rw [allP_snoc] at h
    obtain ⟨row, h1, h2⟩ := List.mem_flatMap.mp h
    obtain ⟨w, _, rfl⟩ := List.mem_map.mp h2
    rw [List.length_append, List.length_append, ih h1]; rfl
theorem allP_in {P : List (List Str)} : ∀ {r : List Str}, r ∈ allP P → ∀ x ∈ r, ∃ l ∈ P, x ∈ l := by
  induction P using snoc_rec with
  | nil => intro r h x hx; rw [show r = [] from List.mem_singleton.mp h] at hx; cases hx
  | snoc P l ih =>
    intro r h x hx
    rw [allP_snoc] at h
    obtain ⟨row, h1, h2⟩ := List.mem_flatMap.mp h
    obtain ⟨w, hw, rfl⟩ := List.mem_map.mp h2
    rcases List.mem_append.mp hx with hx | hx
    · obtain ⟨l', a, b⟩ := ih h1 x hx
      exact ⟨l', List.mem_append_left _ a, b⟩
    · rw [List.mem_singleton.mp hx]; exact ⟨l, by simp, hw⟩
/-! the order of rows -/
def sL (a b : List Str) : Bool := PySem.W.rowLt (a.map PyData.str) (b.map PyData.str)
theorem sL_nil : sL [] [] = false := PyProof.Rows.lex_irrefl _
theorem sL_cons (x y : Str) (a b : List Str) : sL (x :: a) (y :: b) = if x = y then sL a b else decide (x.cps.toList < y.cps.toList) := by
  unfold sL
  rw [List.map_cons, List.map_cons]
  unfold PySem.W.rowLt
  rw [PySem.W.dataLt_cons (by simp [PySem.W.alike]), PySem.W.dataLt_str]
  simp only [PyData.eqv, beq_iff_eq]
theorem sL_same (x y : Str) : ∀ r : List Str, sL (r ++ [x]) (r ++ [y]) = if x = y then false else decide (x.cps.toList < y.cps.toList)
  | [] => by rw [List.nil_append, List.nil_append, sL_cons, sL_nil]
  | z :: r => by rw [List.cons_append, List.cons_append, sL_cons, if_pos rfl, sL_same x y r]
theorem sL_diff (x y : Str) : ∀ a b : List Str, a.length = b.length → a ≠ b → sL (a ++ [x]) (b ++ [y]) = sL a b
  | [], [], _, h => absurd rfl h
  | z :: a, w :: b, hl, h => by
    rw [List.cons_append, List.cons_append, sL_cons, sL_cons]
    by_cases e : z = w
    · rw [if_pos e, if_pos e, sL_diff x y a b (Nat.succ.inj hl) fun q => h (by rw [e, q])]
    · rw [if_neg e, if_neg e]
theorem toPy_dS (a : List Str) : toPy (dS a) = .list (a.map PyData.str) := by
  show PyData.list (toPyL (a.map D.str)) = _
  rw [toPyL_map, List.map_map]; rfl
theorem leD_dS (a b : List Str) : leD false (dS a) (dS b) = !sL b a := by
  show (!PySem.W.dataLt (toPy (dS b)) (toPy (dS a))) = _
  rw [toPy_dS, toPy_dS, PySem.W.dataLt_list]; rfl
/-- texts that rise -/
def Ris1 (l : List Str) : Prop := l.Pairwise fun a b => a.cps.toList < b.cps.toList
theorem ris_of {l : List Str} (h : l.Nodup) : Ris1 (srtS l) := by
  have h1 := srtS_pair l
  have h2 := nodup_srtS.mpr h
  unfold Ris1
  refine (h1.and h2).imp fun {a b} z => ?_
  exact Classical.byContradiction fun q => z.2 (sle_anti z.1 (decide_eq_true (List.not_lt.mp q)))
theorem allP_pair {P : List (List Str)} (h : ∀ l ∈ P, Ris1 l) : (allP P).Pairwise fun a b => a ≠ b ∧ sL b a = false := by
  induction P using snoc_rec with
  | nil => exact List.pairwise_singleton _ _
  | snoc P l ih =>
    have ih := ih fun l hl => h l (List.mem_append_left _ hl)
    have hl : Ris1 l := h l (by simp)
    rw [allP_snoc, List.pairwise_flatMap]
    constructor
    · intro r hr
      rw [List.pairwise_map]
      refine hl.imp fun {x y} z => ⟨fun e => ?_, ?_⟩
      · have : x = y := by simpa using e
        rw [this] at z; exact List.lt_irrefl _ z
      · rw [sL_same]
        split
        · rfl
        · exact decide_eq_false fun q => List.lt_asymm q z
    · refine (List.Pairwise.and_mem.mp ih).imp fun {a b} ⟨ha, hb, ne, z⟩ => ?_
      intro u hu v hv
      obtain ⟨x, _, rfl⟩ := List.mem_map.mp hu
      obtain ⟨y, _, rfl⟩ := List.mem_map.mp hv
      have la := allP_row ha
      have lb := allP_row hb
      refine ⟨fun e => ne (List.append_inj_left e (la.trans lb.symm)), ?_⟩
      rw [sL_diff y x b a (lb.trans la.symm) ne.symm]; exact z
theorem srtD_allP {P : List (List Str)} (h : ∀ l ∈ P, Ris1 l) : srtD false ((allP P).map dS) = (allP P).map dS := by
  unfold srtD
  refine List.mergeSort_of_pairwise ?_
  rw [List.pairwise_map]
  refine (allP_pair h).imp fun {a b} z => ?_
  rw [leD_dS, z.2]; rfl
/-! the parts of the law are the program's sources -/
theorem eq_ris {l m : List Str} (h1 : l.Pairwise fun a b => sle a b = true) (h2 : m.Pairwise fun a b => sle a b = true) (n1 : l.Nodup) (n2 : m.Nodup) (h : ∀ x, x ∈ l ↔ x ∈ m) : l = m :=
  List.Perm.eq_of_pairwise (fun a b _ _ h1 h2 => sle_anti h1 h2) h1 h2 (perm_of_mem n1 n2 h)
theorem pS_src {ms : List Stp} {ws : List Str} {c : Str} (hov : ∀ z ∈ ms, z.1 ∈ ws ∧ z.2 ∈ ws) (hn : ws.Nodup) (hc : c ∈ ws) : pS ms (srtS ws) c = srcF ms c := by
  have inw : ∀ x, x ∈ nmF ms → x ∈ ws := fun x hx => by
    obtain ⟨m, hm, e⟩ := mem_nmF.mp hx
    rcases e with e | e
    · rw [e]; exact (hov m hm).1
    · rw [e]; exact (hov m hm).2
  have p1 : (pS ms (srtS ws) c).Pairwise fun a b => sle a b = true := (srtS_pair ws).filter _
  have q1 : (pS ms (srtS ws) c).Nodup := (nodup_srtS.mpr hn).filter _
  have mm : ∀ x, x ∈ pS ms (srtS ws) c ↔ x ∈ ws ∧ imgF ms x = c := fun x => by
    unfold pS; rw [List.mem_filter, mem_srtS, decide_eq_true_iff]
  unfold srcF
  by_cases q : c ∈ nmF ms
  · rw [if_pos q]
    refine eq_ris p1 ((srtS_pair _).filter _) q1 ((nodup_nmF ms).filter _) fun x => ?_
    rw [mm, List.mem_filter, decide_eq_true_iff]
    refine ⟨fun ⟨a, b⟩ => ⟨Classical.byContradiction fun n => n ?_, b⟩, fun ⟨a, b⟩ => ⟨inw x a, b⟩⟩
    rw [imgF_nm n] at b
    rw [b]; exact q
  · rw [if_neg q]
    refine eq_ris p1 (List.pairwise_singleton _ _) q1 (by simp) fun x => ?_
    rw [mm, List.mem_singleton]
    refine ⟨fun ⟨a, b⟩ => ?_, fun e => ⟨e ▸ hc, by rw [e, imgF_nm q]⟩⟩
    have n : x ∉ nmF ms := fun z => q (b ▸ img_nm z)
    rw [← b, imgF_nm n]
theorem nodup_srcF (ms : List Stp) (c : Str) : (srcF ms c).Nodup := by
  unfold srcF
  split
  · exact (nodup_nmF ms).filter _
  · simp
theorem ris_srcF (ms : List Stp) (c : Str) : Ris1 (srcF ms c) := by
  unfold srcF
  split
  · exact (ris_of (nodup_uq _)).filter _
  · exact List.pairwise_singleton _ _
theorem prod0 : ∀ (l : List Nat) (a : Nat), (∀ n ∈ l, 0 < n) → 0 < a → 0 < l.foldl (· * ·) a
  | [], a, _, h => h
  | n :: l, a, h, ha => by
    rw [List.foldl_cons]
    exact prod0 l _ (fun k hk => h k (List.mem_cons_of_mem _ hk)) (Nat.mul_pos ha (h n List.mem_cons_self))
theorem prod_iff {P : List (List Str)} : prodN (P.map List.length) = 0 ↔ [] ∈ P := by
  constructor
  · intro e
    refine Classical.byContradiction fun n => ?_
    have := prod0 (P.map List.length) 1 (fun k hk => by
      obtain ⟨l, hl, rfl⟩ := List.mem_map.mp hk
      exact List.length_pos_iff.mpr fun z => n (z ▸ hl)) (by decide)
    unfold prodN at e; omega
  · intro h
    refine Nat.eq_zero_of_not_pos fun p => ?_
    have := (prod_zero _ 1 p).2 0 (List.mem_map.mpr ⟨[], h, rfl⟩)
    omega
theorem allP_ne {P : List (List Str)} (h : [] ∉ P) : allP P ≠ [] := fun e => h (prod_iff.mp (by rw [← len_allP, e]; rfl))
theorem allP_nil {P : List (List Str)} (h : [] ∈ P) : allP P = [] := List.eq_nil_of_length_eq_zero (by rw [len_allP]; exact prod_iff.mpr h)
/-- what stands at a place in all rows -/
theorem col_mem {P : List (List Str)} (h : [] ∉ P) : ∀ {i : Nat}, i < P.length → ∀ x, (∃ r ∈ allP P, r.getD i "" = x) ↔ x ∈ P.getD i [] := by
  induction P using snoc_rec with
  | nil => intro i hi; exact absurd hi (Nat.not_lt_zero _)
  | snoc P l ih =>
    have h1 : [] ∉ P := fun z => h (List.mem_append_left _ z)
    have h2 : l ≠ [] := fun z => h (by rw [z]; simp)
    have ih := @ih h1
    obtain ⟨w0, hw0⟩ := List.exists_mem_of_ne_nil _ h2
    obtain ⟨r0, hr0⟩ := List.exists_mem_of_ne_nil _ (allP_ne h1)
    intro i hi x
    rw [List.length_append, List.length_singleton] at hi
    have gl : ∀ (r : List Str) (w : Str), r.length = P.length → i < P.length → (r ++ [w]).getD i "" = r.getD i "" := fun r w e q => by
      rw [List.getD_eq_getElem?_getD, List.getElem?_append_left (by omega), ← List.getD_eq_getElem?_getD]
    have gr : ∀ (r : List Str) (w : Str), r.length = P.length → i = P.length → (r ++ [w]).getD i "" = w := fun r w e q => by
      rw [List.getD_eq_getElem?_getD, List.getElem?_append_right (by omega), q, e, Nat.sub_self]; rfl
    rw [allP_snoc]
    by_cases q : i < P.length
    · have e : (P ++ [l]).getD i [] = P.getD i [] := by rw [List.getD_eq_getElem?_getD, List.getElem?_append_left q, ← List.getD_eq_getElem?_getD]
      rw [e, ← ih q x]
      constructor
      · rintro ⟨r, hr, e⟩
        obtain ⟨row, a1, a2⟩ := List.mem_flatMap.mp hr
        obtain ⟨w, _, rfl⟩ := List.mem_map.mp a2
        rw [gl row w (allP_row a1) q] at e
        exact ⟨row, a1, e⟩
      · rintro ⟨row, a1, e⟩
        exact ⟨row ++ [w0], List.mem_flatMap.mpr ⟨row, a1, List.mem_map.mpr ⟨w0, hw0, rfl⟩⟩, by rw [gl row w0 (allP_row a1) q]; exact e⟩
    · have qi : i = P.length := by omega
      have e : (P ++ [l]).getD i [] = l := by rw [List.getD_eq_getElem?_getD, List.getElem?_append_right (by omega), qi, Nat.sub_self]; rfl
      rw [e]
      constructor
      · rintro ⟨r, hr, e⟩
        obtain ⟨row, a1, a2⟩ := List.mem_flatMap.mp hr
        obtain ⟨w, hw, rfl⟩ := List.mem_map.mp a2
        rw [gr row w (allP_row a1) qi] at e
        rw [← e]; exact hw
      · intro hx
        exact ⟨r0 ++ [x], List.mem_flatMap.mpr ⟨r0, hr0, List.mem_map.mpr ⟨x, hx, rfl⟩⟩, gr r0 x (allP_row hr0) qi⟩
theorem col_len {P : List (List Str)} (h : [] ∉ P) {i : Nat} (hi : i < P.length) (hn : (P.getD i []).Nodup) : (uq ((allP P).map fun r => r.getD i "")).length = (P.getD i []).length :=
  (perm_of_mem (nodup_uq _) hn fun x => by
    rw [mem_uq, List.mem_map]
    exact col_mem h hi x).length_eq
/-- a row told back as a number -/
def encZ (z : List (Str × List Str)) : Nat := z.foldl (fun a p => a * p.2.length + p.2.idxOf p.1) 0
theorem encZ_snoc (z : List (Str × List Str)) (p : Str × List Str) : encZ (z ++ [p]) = encZ z * p.2.length + p.2.idxOf p.1 := by unfold encZ; rw [List.foldl_append]; rfl
theorem enc_dec {P : List (List Str)} (h : ∀ l ∈ P, l.Nodup) : ∀ n, n < prodN (P.map List.length) → encZ ((decP P n).zip P) = n := by
  induction P using snoc_rec with
  | nil => intro n hn; have : n < 1 := hn; have : n = 0 := by omega
           subst this; rfl
  | snoc P l ih =>
    intro n hn
    rw [List.map_append, List.map_singleton, prodN_snoc] at hn
    have hk : 0 < l.length := Nat.pos_of_ne_zero fun z => by rw [z, Nat.mul_zero] at hn; omega
    have hm : n % l.length < l.length := Nat.mod_lt _ hk
    rw [decP_snoc, List.zip_append (len_decP P _), show List.zip [l.getD (n % l.length) ""] [l] = [(l.getD (n % l.length) "", l)] from rfl, encZ_snoc, ih (fun l hl => h l (List.mem_append_left _ hl)) _ (Nat.div_lt_of_lt_mul (by rw [Nat.mul_comm]; exact hn))]
    have e : l.idxOf (l.getD (n % l.length) "") = n % l.length := by
      have nd := h l (by simp)
      rw [List.getD_eq_getElem?_getD, List.getElem?_eq_getElem hm]
      exact nd.idxOf_getElem _ hm
    show n / l.length * l.length + l.idxOf (l.getD (n % l.length) "") = n
    rw [e, Nat.mul_comm]
    exact Nat.div_add_mod n l.length
theorem dec_in {P : List (List Str)} : ∀ n, n < prodN (P.map List.length) → ∀ z ∈ (decP P n).zip P, z.1 ∈ z.2 := by
  induction P using snoc_rec with
  | nil => intro n hn z hz; cases hz
  | snoc P l ih =>
    intro n hn z hz
    rw [List.map_append, List.map_singleton, prodN_snoc] at hn
    have hk : 0 < l.length := Nat.pos_of_ne_zero fun z => by rw [z, Nat.mul_zero] at hn; omega
    have hm : n % l.length < l.length := Nat.mod_lt _ hk
    rw [decP_snoc, List.zip_append (len_decP P _), show List.zip [l.getD (n % l.length) ""] [l] = [(l.getD (n % l.length) "", l)] from rfl] at hz
    rcases List.mem_append.mp hz with hz | hz
    · exact ih _ (Nat.div_lt_of_lt_mul (by rw [Nat.mul_comm]; exact hn)) z hz
    · rw [List.mem_singleton.mp hz]
      show l.getD (n % l.length) "" ∈ l
      rw [List.getD_eq_getElem?_getD, List.getElem?_eq_getElem hm]
      exact List.getElem_mem hm
theorem nthF_dec (ms : List Stp) (cs : List Str) (n : Nat) : nthF ms cs n = decP (srsF ms cs) n := rfl
theorem srs_eq {ms : List Stp} {ws cs : List Str} (hov : ∀ z ∈ ms, z.1 ∈ ws ∧ z.2 ∈ ws) (hn : ws.Nodup) (hc : ∀ c ∈ cs, c ∈ ws) : cs.map (pS ms (srtS ws)) = srsF ms cs :=
  List.map_congr_left fun c h => pS_src hov hn (hc c h)
end Vl
namespace Vl
open PySem PySem.Spec L2
open PyProof.Rows hiding St

/-! ### cells within lists, read through -/
mutual
def rsv (S : List C) : D → D
  | .lst ds => .lst (rsvL S ds)
  | .tup ds => .tup (rsvL S ds)
  | .loc n => (S[n]?.map C.toD).getD (.loc n)
  | .non => .non | .bl b => .bl b | .int i => .int i | .str x => .str x | .dic k => .dic k | .raw v => .raw v
def rsvL (S : List C) : List D → List D
  | [] => []
  | d :: ds => rsv S d :: rsvL S ds
end
theorem rsvL_map (S : List C) : ∀ ds, rsvL S ds = ds.map (rsv S)
  | [] => rfl
  | d :: ds => by rw [rsvL, rsvL_map S ds]; rfl
theorem rsv_lst {S : List C} {ds : List D} : rsv S (.lst ds) = .lst (ds.map (rsv S)) := by rw [rsv, rsvL_map]
theorem rsv_tup {S : List C} {ds : List D} : rsv S (.tup ds) = .tup (ds.map (rsv S)) := by rw [rsv, rsvL_map]
theorem rsv_loc {S : List C} {n : Nat} {c : C} (h : S[n]? = some c) : rsv S (.loc n) = c.toD := by rw [rsv, h]; rfl
theorem rsv_non {S : List C} : rsv S .non = .non := by rw [rsv]
theorem rsv_bl {S : List C} {b : Bool} : rsv S (.bl b) = .bl b := by rw [rsv]
theorem rsv_int {S : List C} {i : Int} : rsv S (.int i) = .int i := by rw [rsv]
theorem rsv_str {S : List C} {x : Str} : rsv S (.str x) = .str x := by rw [rsv]
theorem rsv_dic {S : List C} {k : List (Key × D)} : rsv S (.dic k) = .dic k := by rw [rsv]
/-- nothing to be read through -/
theorem rsv_id {S : List C} {α : Type} {e : α → D} (h : ∀ a, rsv S (e a) = e a) (as : List α) : (as.map e).map (rsv S) = as.map e := by
  rw [List.map_map]; exact List.map_congr_left fun a _ => h a
open Classical in
noncomputable def seeW (w : Wd) (H : Hp) : Wd := { w with F := fun a => if a ∈ w.cs then H a else w.F a }
section
variable {B : Hp} {R : Addr → Prop} {w : Wd} {σ : St} {H : Hp} {ss : SS}
theorem see_in {a : Addr} (h : a ∈ w.cs) : (seeW w H).F a = H a := if_pos h
theorem see_out {a : Addr} (h : a ∉ w.cs) : (seeW w H).F a = w.F a := if_neg h
theorem Ok.see_ext (o : Ok B R w σ H ss) : Ext w (seeW w H) := ⟨fun a u e => by
  rw [see_out fun m => by rw [(o.cf a m).1] at e; cases e]; exact e, fun _ _ e => e⟩
theorem Ok.see_le (o : Ok B R w σ H ss) : Le (seeW w H) H := fun a u e => by
  by_cases m : a ∈ w.cs
  · rw [see_in m] at e; exact .inl e
  · rw [see_out m] at e; exact o.le a u e
theorem Ok.see_cell (o : Ok B R w σ H ss) {n : Nat} {v : V} (h : Rep w (.loc n) v) : Rep (seeW w H) (rsv ss.S (.loc n)) v := by
  obtain ⟨a, rfl, ha⟩ := h
  have hn : n < ss.S.length := by rw [← o.cl]; exact (List.getElem?_eq_some_iff.mp ha).1
  obtain ⟨b, hb, x⟩ := o.ce n ss.S[n] (List.getElem?_eq_getElem hn)
  rw [ha] at hb; cases hb
  rw [rsv_loc (List.getElem?_eq_getElem hn)]
  have m : a ∈ w.cs := List.mem_of_getElem? ha
  generalize ss.S[n] = c at x
  cases c with
  | lst xs => obtain ⟨vs, e, r⟩ := x; exact ⟨a, vs, rfl, by rw [see_in m]; exact e, r.ext o.see_ext⟩
  | dic kvs => obtain ⟨vs, e, r⟩ := x; exact ⟨a, vs, rfl, by rw [see_in m]; exact e, r.ext o.see_ext⟩
mutual
theorem Ok.see (o : Ok B R w σ H ss) : ∀ (d : D) (v : V), Rep w d v → Rep (seeW w H) (rsv ss.S d) v
  | .non, v, h => by rw [rsv]; exact h
  | .bl b, v, h => by rw [rsv]; exact h
  | .int i, v, h => by rw [rsv]; exact h
  | .str x, v, h => by rw [rsv]; exact h
  | .raw u, v, h => by rw [rsv]; exact h
  | .dic k, v, h => by rw [rsv]; exact Rep.ext o.see_ext _ _ h
  | .loc n, v, h => o.see_cell h
  | .lst ds, _, ⟨a, vs, e1, e2, h⟩ => by rw [rsv]; exact ⟨a, vs, e1, o.see_ext.F _ _ e2, Ok.seeL o ds vs h⟩
  | .tup ds, _, ⟨a, vs, e1, e2, h⟩ => by rw [rsv]; exact ⟨a, vs, e1, o.see_ext.F _ _ e2, Ok.seeL o ds vs h⟩
theorem Ok.seeL (o : Ok B R w σ H ss) : ∀ (ds : List D) (vs : List V), RepL w ds vs → RepL (seeW w H) (rsvL ss.S ds) vs
  | [], vs, h => h
  | d :: ds, _, ⟨v, us, e, h1, h2⟩ => ⟨v, us, e, Ok.see o d v h1, Ok.seeL o ds us h2⟩
end
theorem Ok.seeT (o : Ok B R w σ H ss) {d : D} {v : V} (h : RepT w H d v) : RepT (seeW w H) H (rsv ss.S d) v := by
  have back : ∀ {d : D}, Rep (seeW w H) d v → RepT (seeW w H) H d v := fun {d} h => by
    cases d with
    | lst ds => obtain ⟨a, vs, e1, e2, r⟩ := h; exact ⟨a, vs, e1, o.see_le _ _ e2, r⟩
    | dic ds => obtain ⟨a, vs, e1, e2, r⟩ := h; exact ⟨a, vs, e1, o.see_le _ _ e2, r⟩
    | _ => exact h
  cases d with
  | lst ds => obtain ⟨a, vs, e1, e2, r⟩ := h; rw [rsv]; exact ⟨a, vs, e1, e2, o.seeL ds vs r⟩
  | dic ds => obtain ⟨a, vs, e1, e2, r⟩ := h; rw [rsv]; exact ⟨a, vs, e1, e2, r.ext o.see_ext⟩
  | non => exact back (o.see _ _ h)
  | bl b => exact back (o.see _ _ h)
  | int i => exact back (o.see _ _ h)
  | str x => exact back (o.see _ _ h)
  | tup ds => exact back (o.see _ _ h)
  | loc n => exact back (o.see _ _ h)
  | raw u => exact back (o.see _ _ h)
/-- a result without parts -/
def atm : Re → Prop
  | .val .non | .val (.bl _) | .val (.int _) | .val (.str _) => True
  | _ => False
theorem atm_rep {w w' : Wd} {d : D} {v : V} (h : atm (.val d)) (r : Rep w d v) : Rep w' d v := by
  cases d with
  | non => exact r
  | bl b => exact r
  | int i => exact r
  | str x => exact r
  | _ => exact h.elim
theorem fin_atm {P : Re → Prop} {Q : VK} (h : Fin w H P Q) : Fin (seeW w H) H (fun r => atm r ∧ P r) Q :=
  ⟨fun v d r ⟨a, p⟩ => h.old v d (atm_rep a r) p, fun p u c _ _ ⟨a, _⟩ => a.elim, fun p vs ds _ _ ⟨a, _⟩ => a.elim⟩
end
section
variable {X : Cx} {a b e : Expr} {pos : Pos} {r : R2} {k : KK} {fa fb : WE}
def fOpR (k : KK) (fa fb : WE) : WE := fun ss G => f2 fa fb (fun a b s => vw a s fun a => vw b s fun b => k (rsv s.S a) (rsv s.S b) fun d => atm d ∧ G d s) ss
theorem op_runR {ta tb : TE} (hk : OpX X r k) (h2 : ∀ (B : Hp) (R : Addr → Prop) (w : Wd) (σ : St) (H : Hp) (ss : SS) (k : Re → Re → SS → Prop) (Q : V → V → Hp → Prop), Ok B R w σ H ss → f2 fa fb k ss →
    (∀ x y H' r q ss' w', Ok B R w' σ H' ss' → RepR B R w' σ H' ss' r x → RepR B R w' σ H' ss' q y → Ext w w' → k r q ss' → Q x y H') → ta σ H fun x H1 => tb σ H1 fun y H2 => Q x y H2)
    (B : Hp) (R : Addr → Prop) (w : Wd) (σ : St) (H : Hp) (ss : SS) (G : Re → SS → Prop) (Q : VK) (o : Ok B R w σ H ss) (hw : fOpR k fa fb ss G)
    (hq : ∀ v H' r ss' w', Ok B R w' σ H' ss' → RepR B R w' σ H' ss' r v → Ext w w' → G r ss' → Q v H') : tOp r ta tb σ H Q := by
  refine h2 B R w σ H ss _ _ o hw fun x y H' p q s' w' o' r1 r2 ex hk' => ?_
  obtain ⟨a', ra, hk'⟩ := vw_ok o' r1 hk'
  obtain ⟨b', rb, hk'⟩ := vw_ok o' r2 hk'
  exact hk _ H' _ _ x y _ _ o'.see_le (o'.seeT ra) (o'.seeT rb) hk' (fin_atm (fin_of o' ex (fun _ h => h) hq))
theorem de_cmpR {op : CmpOp} (ho : OpR X (compareOp op) r) (hk : OpX X r k) (hm : behindInMarks op b = false) (ha : DE X a fa) (hb : DE X b fb) : DE X (.Compare a [op] [b] pos) (fOpR k fa fb) := by
  obtain ⟨ta, tb, pa, pb, h2⟩ := two ha hb
  exact ⟨_, pe_cmpR ho pa pb hm, op_runR hk h2⟩
theorem dt_cmpR {op : CmpOp} (ho : OpR X (compareOp op) r) (hk : OpX X r k) (hm : behindInMarks op b = false) (ha : DE X a fa) (hb : DE X b fb) : DT X (.Compare a [op] [b] pos) (fT (fOpR k fa fb)) := by
  obtain ⟨ta, tb, pa, pb, h2⟩ := two ha hb
  exact dt_of (pt_cmpR ho pa pb hm) (op_runR hk h2)
theorem de_eqR (hu : X.A.units + 64 < cLine) (ha : DE X a fa) (hb : DE X b fb) : DE X (.Compare a [.Eq] [b] pos) (fOpR kEq fa fb) := de_cmpR (op_eq.or (op_eqD hu)) ox_eq (nomark _) ha hb
theorem de_neR (hu : X.A.units + 64 < cLine) (ha : DE X a fa) (hb : DE X b fb) : DE X (.Compare a [.NotEq] [b] pos) (fOpR kNe fa fb) := de_cmpR (op_ne.or (op_neD hu)) ox_ne (nomark _) ha hb
theorem dt_eqR (hu : X.A.units + 64 < cLine) (ha : DE X a fa) (hb : DE X b fb) : DT X (.Compare a [.Eq] [b] pos) (fT (fOpR kEq fa fb)) := dt_cmpR (op_eq.or (op_eqD hu)) ox_eq (nomark _) ha hb
theorem dt_neR (hu : X.A.units + 64 < cLine) (ha : DE X a fa) (hb : DE X b fb) : DT X (.Compare a [.NotEq] [b] pos) (fT (fOpR kNe fa fb)) := dt_cmpR (op_ne.or (op_neD hu)) ox_ne (nomark _) ha hb
/-! built-ins over data read through -/
def fBltR (k : KC) (fs : WR) : WE := fun ss G => fs ss fun rs s => vws rs s fun ds => k (ds.map (rsv s.S)) fun r => atm r ∧ G r s
theorem Ok.seeTs {B : Hp} {R : Addr → Prop} {w : Wd} {σ : St} {H : Hp} {ss : SS} (o : Ok B R w σ H ss) : ∀ {ds : List D} {vs : List V}, RepTs w H ds vs → RepTs (seeW w H) H (ds.map (rsv ss.S)) vs
  | [], vs, h => h
  | d :: ds, _, ⟨v, us, e, h1, h2⟩ => ⟨v, us, e, o.seeT h1, Ok.seeTs o h2⟩
variable {fr : WR} {x : Str} {p : Pos} {id T : String} {rc : List V → Hp → VK → Prop} {kc : KC} {es : List Expr}
theorem de_bltR (hc : CallR X (.builtin id) rc) (hk : CallX rc kc) (hm : X.mg x = none) (hv : bootBuiltins x = some (.builtin id)) (hg : Gl X x) (ha : DR X (e :: es) fr) (hn : x ≠ "__name__" := by decide) (hdb : (x == ("__debug__" : Str)) = false := by decide)
    (he : starEach (e :: es) X.env = (false, eval e X.env) :: starEach es X.env := by rfl) (hpl : (backTo pos (starEach es X.env)).any (·.1) = false := by rfl) : DE X (.Call (.Name x p) (e :: es) [] pos) (fBltR kc fr) := by
  obtain ⟨t, pa, hf⟩ := ha
  refine ⟨_, pe_callB hc hg hm hv pa hn hdb he hpl, fun B R w σ H ss G Q o hw hq => hf B R w σ H ss _ _ o hw fun vs H1 rs s1 w1 o1 r1 e1 h1 => ?_⟩
  obtain ⟨ds, rd, hk'⟩ := vws_ok o1 r1 h1
  exact hk _ H1 _ vs _ Q o1.see_le (o1.seeTs rd) hk' (fin_atm (fin_of o1 e1 (fun _ h => h) hq))
theorem de_reprR {k : Nat} (hr : RoomG k X.A) (hm : X.mg "repr" = none) (hg : Gl X "repr" := by rfl) (ha : DR X [a] fr) (he : starEach [a] X.env = [(false, eval a X.env)] := by rfl) : DE X (.Call (.Name "repr" p) [a] [] pos) (fBltR kRepr fr) :=
  de_bltR (cr_repr hr.gd hr.units) cx_repr hm bt_repr hg ha (by decide) (by decide) he rfl
/-! sorted by what is read through -/
def srtL (S : List C) (ds : List D) : List D := ((ds.zip (ds.map (rsv S))).mergeSort fun a b => leD false a.2 b.2).map (·.1)
theorem srtL_perm (S : List C) (ds : List D) : (srtL S ds).Perm ds := by
  unfold srtL
  have h := (List.mergeSort_perm (ds.zip (ds.map (rsv S))) fun a b => leD false a.2 b.2).map (·.1)
  rw [zip_fst (by simp)] at h
  exact h
theorem srtL_rsv (S : List C) (ds : List D) : (srtL S ds).map (rsv S) = srtD false (ds.map (rsv S)) := by
  unfold srtL srtD
  have e := List.map_mergeSort (r := fun a b : D × D => leD false a.2 b.2) (s := leD false) (f := fun p : D × D => p.2) (l := ds.zip (ds.map (rsv S))) (fun _ _ _ _ => rfl)
  rw [zip_snd (by simp)] at e
  rw [← e, List.map_map]
  refine List.map_congr_left fun p hp => ?_
  have hp := (List.mergeSort_perm _ _).mem_iff.mp hp
  obtain ⟨i, hi⟩ := List.mem_iff_getElem?.mp hp
  rw [List.getElem?_zip_eq_some, List.getElem?_map, hi.1] at hi
  have := hi.2
  simp at this
  show rsv S p.1 = p.2
  have h1 := hi.1
  exact this
theorem repL_srtL {w : Wd} {vs : List V} {ds xs : List D} (h : RepL w ds vs) (hl : ds.length = xs.length) : RepL w (((ds.zip xs).mergeSort fun a b => leD false a.2 b.2).map (·.1)) (srtV false vs xs) := by
  have hv := h.length
  unfold srtV
  -- both are told by the list of triples
  have e1 := List.map_mergeSort (r := fun a b : V × (D × D) => leD false a.2.2 b.2.2) (s := PySem.W.dataLe false fun b : V × D => toPy b.2) (f := fun p : V × (D × D) => (p.1, p.2.2)) (l := vs.zip (ds.zip xs)) (fun _ _ _ _ => rfl)
  have e2 := List.map_mergeSort (r := fun a b : V × (D × D) => leD false a.2.2 b.2.2) (s := fun a b : D × D => leD false a.2 b.2) (f := fun p : V × (D × D) => p.2) (l := vs.zip (ds.zip xs)) (fun _ _ _ _ => rfl)
  have z1 : (vs.zip (ds.zip xs)).map (fun p : V × (D × D) => (p.1, p.2.2)) = vs.zip xs := by
    clear e1 e2 h
    induction ds generalizing vs xs with
    | nil => cases vs <;> cases xs <;> simp_all
    | cons d ds ih =>
      cases vs with
      | nil => simp at hv
      | cons v vs =>
        cases xs with
        | nil => simp at hl
        | cons x xs => simp only [List.zip_cons_cons, List.map_cons]; rw [ih (by simpa using hl) (by simpa using hv)]
  have z2 : (vs.zip (ds.zip xs)).map (fun p : V × (D × D) => p.2) = ds.zip xs := zip_snd (by rw [List.length_zip, ← hl, Nat.min_self]; exact hv)
  rw [z1] at e1
  rw [z2] at e2
  rw [← e1, ← e2, List.map_map, List.map_map]
  have hp : ∀ p ∈ (vs.zip (ds.zip xs)).mergeSort (fun a b : V × (D × D) => leD false a.2.2 b.2.2), Rep w p.2.1 p.1 := fun p m => by
    have m := (List.mergeSort_perm _ _).mem_iff.mp m
    obtain ⟨i, hi⟩ := List.mem_iff_getElem?.mp m
    rw [List.getElem?_zip_eq_some, List.getElem?_zip_eq_some] at hi
    obtain ⟨v, e1, r⟩ := h.get hi.2.1
    rw [hi.1] at e1
    cases e1
    exact r
  generalize (vs.zip (ds.zip xs)).mergeSort (fun a b : V × (D × D) => leD false a.2.2 b.2.2) = l at hp
  induction l with
  | nil => rfl
  | cons p l ih => exact ⟨_, _, rfl, hp p List.mem_cons_self, ih fun q m => hp q (List.mem_cons_of_mem _ m)⟩
def kSrtL (S : List C) (d : D) (P : Re → Prop) : Prop := match d with
  | .lst ds => srtOk (ds.map (rsv S)) ∧ P (.new (.lst (srtL S ds)))
  | _ => False
theorem x_srtL {S : List C} {ds : List D} {P : Re → Prop} : kSrtL S (.lst ds) P = (srtOk (ds.map (rsv S)) ∧ P (.new (.lst (srtL S ds)))) := propext Iff.rfl
def fSrtL (fa : WE) : WE := fun ss G => fa ss fun r s => vw r s fun d => kSrtL s.S d fun r => G r s
theorem de_srtL (hu : X.A.units + 64 < cLine) (hm : X.mg "sorted" = none) (ha : DE X e fa) (hg : Gl X "sorted" := by rfl) (he : starEach [e] X.env = [(false, eval e X.env)] := by rfl) : DE X (.Call (.Name "sorted" p) [e] [] pos) (fSrtL fa) := by
  obtain ⟨t, pe, hf⟩ := ha
  refine ⟨_, pe_callB (cr_srt hu) hg hm bt_sorted (pa_cons pe pa_nil he) (by decide) (by decide) he rfl, fun B R w σ H ss G Q o hw hq => hf B R w σ H ss _ _ o hw fun v H1 r1 s1 w1 o1 rr e1 h1 => ?_⟩
  obtain ⟨d, rd, hk⟩ := vw_ok o1 rr h1
  unfold kSrtL at hk
  split at hk
  · rename_i ds
    obtain ⟨hs, hg⟩ := hk
    obtain ⟨l, vs, rfl, h1, h2⟩ := rd
    have h3 := o1.seeL ds vs h2
    rw [rsvL_map] at h3
    refine ⟨l, vs, ds.map (rsv s1.S), rfl, .inl h1, by rw [List.length_map]; exact h2.length, by rw [← toPyL_map]; exact repL_dpP o1.see_le _ _ h3 (by rw [plL_all]; exact hs.2.2.1), hs, fun p hp => ?_⟩
    obtain ⟨o2, r2⟩ := new_ok (c := .lst (srtL s1.S ds)) o1 hp ⟨_, upd_same, repL_srtL h2 (by simp)⟩
    exact hq _ _ (.new (.lst (srtL s1.S ds))) s1 w1 o2 r2 e1 hg
  · exact hk.elim
end
end Vl
namespace Vl
open PySem PySem.Spec L2
open PyProof.Rows hiding St

/-! ### an own slot becomes a cell -/
section
variable {B : Hp} {R : Addr → Prop} {w : Wd} {σ : St} {H : Hp} {ss : SS}
theorem celledO (o : Ok B R w σ H ss) {i : Nat} {v : V} {c : C} (h : σ[i]? = some (some v)) (e : ss.r[i]? = some (.own c)) :
    ∃ w', Ok B R w' σ H { r := ss.r.set i (.val (.loc ss.S.length)), S := ss.S ++ [c] } ∧ Ext w w' ∧ Rep w' (.loc ss.S.length) v := by
  obtain ⟨a1, x, h1, h2, h3, h4⟩ := o.ow i c e
  rw [h] at a1; cases a1
  have o1 : Ok B R w σ H { ss with r := ss.r.set i .no } := o.slots (by rw [List.length_set]; exact o.ln) (fun j d q => by
    rcases set_get q with ⟨_, q, _⟩ | ⟨_, q⟩
    · cases q
    · exact o.vl j d q) (fun j c' q => by
    rcases set_get q with ⟨_, q, _⟩ | ⟨_, q⟩
    · cases q
    · exact ⟨q, rfl⟩)
  have rr : RepR B R w σ H { ss with r := ss.r.set i .no } (.new c) (.ref (w.os i)) := ⟨_, rfl, x, h1, h2, h3, h4, fun j c' q z => by
    rcases set_get q with ⟨_, q, _⟩ | ⟨ne, q⟩
    · cases q
    · exact ne (o.oi j i c' c q e z)⟩
  obtain ⟨d, s2, w2, o2, ex, rd, hd, hs⟩ := celled o1 rr (k := fun d s => d = .loc ss.S.length ∧ s = { r := ss.r.set i .no, S := ss.S ++ [c] }) ⟨rfl, rfl⟩
  subst hd hs
  refine ⟨w2, ?_, ex, rd⟩
  have hi : i < ss.r.length := (List.getElem?_eq_some_iff.mp e).1
  exact o2.slots (r' := ss.r.set i (.val (.loc ss.S.length))) (σ' := σ) (by rw [List.length_set]; exact o.ln) (fun j d q => by
    rcases set_get q with ⟨e1, q, _⟩ | ⟨ne, q⟩
    · cases q; subst e1; exact ⟨_, h, rd⟩
    · exact o2.vl j d (by rw [List.getElem?_set_ne (fun z => ne z.symm)]; exact q)) (fun j c' q => by
    rcases set_get q with ⟨_, q, _⟩ | ⟨ne, q⟩
    · cases q
    · exact ⟨by show (ss.r.set i .no)[j]? = _; rw [List.getElem?_set_ne (fun z => ne z.symm)]; exact q, rfl⟩)
end
def csS (i : Nat) (x : Option SV) (ss : SS) (k : D → SS → Prop) : Prop := match x with
  | some (.own c) => k (.loc ss.S.length) { r := ss.r.set i (.val (.loc ss.S.length)), S := ss.S ++ [c] }
  | some (.val d) => k d ss
  | _ => False
def toCellS (r : Re) (ss : SS) (k : D → SS → Prop) : Prop := match r with
  | .slo i => csS i ss.r[i]? ss k
  | .new c => toCell (.new c) ss k
  | .val d => k d ss
def fCellS (f : WE) : WV := fun ss G => f ss fun r ss' => toCellS r ss' G
theorem x_cS1 {c : C} {ss : SS} {k : D → SS → Prop} : toCellS (.new c) ss k = k (.loc ss.S.length) { ss with S := ss.S ++ [c] } := propext Iff.rfl
theorem x_cS2 {d : D} {ss : SS} {k : D → SS → Prop} : toCellS (.val d) ss k = k d ss := propext Iff.rfl
theorem x_cS3 {i : Nat} {ss : SS} {k : D → SS → Prop} : toCellS (.slo i) ss k = csS i ss.r[i]? ss k := propext Iff.rfl
theorem x_cS4 {i : Nat} {c : C} {ss : SS} {k : D → SS → Prop} : csS i (some (.own c)) ss k = k (.loc ss.S.length) { r := ss.r.set i (.val (.loc ss.S.length)), S := ss.S ++ [c] } := propext Iff.rfl
theorem x_cS5 {i : Nat} {d : D} {ss : SS} {k : D → SS → Prop} : csS i (some (.val d)) ss k = k d ss := propext Iff.rfl
theorem dv_cellS {X : Cx} {e : Expr} {f : WE} (h : DE X e f) : DV X e (fCellS f) := by
  obtain ⟨t, ht, hf⟩ := h
  refine ⟨t, ht, fun B R w σ H ss G Q o hw hq => hf B R w σ H ss _ Q o hw fun v H' r ss' w' o' rr ex hg => ?_⟩
  cases r with
  | val d => exact hq v H' d ss' w' o' rr ex hg
  | new c =>
    obtain ⟨d, ss2, w2, o2, ex2, rd, hk⟩ := celled o' rr hg
    exact hq v H' d ss2 w2 o2 rd (ex.trans ex2) hk
  | slo i =>
    have hg : csS i ss'.r[i]? ss' G := hg
    cases e : ss'.r[i]? with
    | none => rw [e] at hg; exact hg.elim
    | some x =>
      rw [e] at hg
      cases x with
      | no => exact hg.elim
      | val d =>
        obtain ⟨v', a1, a2⟩ := o'.vl i d e
        have : some (some v) = some (some v') := (show σ[i]? = some (some v) from rr).symm.trans a1
        cases this
        exact hq v H' d ss' w' o' a2 ex hg
      | own c =>
        obtain ⟨w2, o2, ex2, rd⟩ := celledO o' rr e
        exact hq v H' _ _ w2 o2 rd (ex.trans ex2) hg

/-! ### a call that only reads: its arguments read through, its answer without parts -/
mutual
def nlD : D → Bool
  | .lst ds | .tup ds => nlL ds
  | .dic kvs => nlK kvs
  | .loc _ => false
  | .non | .bl _ | .int _ | .str _ | .raw _ => true
def nlL : List D → Bool
  | [] => true
  | d :: ds => nlD d && nlL ds
def nlK : List (Key × D) → Bool
  | [] => true
  | (_, d) :: ds => nlD d && nlK ds
end
theorem nlL_all : ∀ ds : List D, nlL ds = ds.all nlD
  | [] => rfl
  | d :: ds => by rw [nlL, List.all_cons, nlL_all ds]
theorem nlK_all : ∀ ds : List (Key × D), nlK ds = ds.all fun p => nlD p.2
  | [] => rfl
  | (k, d) :: ds => by rw [nlK, List.all_cons, nlK_all ds]
section
variable {w w' : Wd} (hF : ∀ a u, w.F a = some u → w'.F a = some u)
include hF
mutual
theorem nl_rep : ∀ (d : D) (v : V), nlD d = true → Rep w d v → Rep w' d v
  | .non, _, _, h => h
  | .bl _, _, _, h => h
  | .int _, _, _, h => h
  | .str _, _, _, h => h
  | .raw _, _, _, h => h
  | .loc _, _, z, _ => by rw [nlD] at z; cases z
  | .lst ds, _, z, ⟨a, vs, e1, e2, h⟩ => ⟨a, vs, e1, hF _ _ e2, nl_repL ds vs (by rw [nlD] at z; exact z) h⟩
  | .tup ds, _, z, ⟨a, vs, e1, e2, h⟩ => ⟨a, vs, e1, hF _ _ e2, nl_repL ds vs (by rw [nlD] at z; exact z) h⟩
  | .dic ds, _, z, ⟨a, vs, e1, e2, h⟩ => ⟨a, vs, e1, hF _ _ e2, nl_repK ds vs (by rw [nlD] at z; exact z) h⟩
theorem nl_repL : ∀ (ds : List D) (vs : List V), nlL ds = true → RepL w ds vs → RepL w' ds vs
  | [], _, _, h => h
  | d :: ds, _, z, ⟨v, us, e1, h1, h2⟩ => by
    rw [nlL, Bool.and_eq_true] at z
    exact ⟨v, us, e1, nl_rep d v z.1 h1, nl_repL ds us z.2 h2⟩
theorem nl_repK : ∀ (ds : List (Key × D)) (vs : List (Key × V)), nlK ds = true → RepK w ds vs → RepK w' ds vs
  | [], _, _, h => h
  | (k, d) :: ds, _, z, ⟨v, us, e1, h1, h2⟩ => by
    rw [nlK, Bool.and_eq_true] at z
    exact ⟨v, us, e1, nl_rep d v z.1 h1, nl_repK ds us z.2 h2⟩
end
end
def fCallP (c : Ct) (fs : WA) : WE := fun ss G => fs ss fun ds s => nlL (ds.map (rsv s.S)) = true ∧ c (ds.map (rsv s.S)) [] fun r _ => atm r ∧ G r s
section
variable {X : Cx} {e : Expr} {es : List Expr} {fs : WA} {c : Ct} {k j : Nat} {x : Str} {st : Stmt} {ps : List Str} {p pos : Pos}
theorem de_fnP (F : FnC X.prog X.w X.K X.mg X.base x st ps c k) (ha : DA X (e :: es) fs) (hr : RoomG j X.A) (hj : k ≤ j := by decide) (hg : Gl X x := by rfl)
    (hdb : (x == ("__debug__" : Str)) = false := by decide) (he : starEach (e :: es) X.env = (false, eval e X.env) :: starEach es X.env := by rfl) (hpl : (backTo pos (starEach es X.env)).any (·.1) = false := by rfl) :
    DE X (.Call (.Name x p) (e :: es) [] pos) (fCallP c fs) := by
  obtain ⟨f, fd, hF, hm, hok, hb⟩ := F.ex
  obtain ⟨t, pa, hf⟩ := ha
  refine ⟨fun σ H Q => t σ H fun vs H1 => specOf c vs H1 Q E0, ⟨fun pins s σ H Q I h => ?_⟩, fun B R w σ H ss G Q o hw hq => hf B R w σ H ss _ _ o hw fun vs H1 ds s1 w1 o1 r1 e1 ⟨h0, h1⟩ => ?_⟩
  · refine wpAny_Call_Name_kw (ld_glob I hg hm ?_ hdb)
    refine PySem.W.callWith_K (h₀ := X.base) I.ok.mod.kin hF.kp (thn (pa.run pos pins s σ H _ I h) fun us s1 ⟨vs, H1, I1, r, q⟩ => ⟨I1.kIn, ?_⟩) he hpl
    have hl : us.length = ps.length := by rw [← r.length]; exact hok.ln _ _ _ _ q
    exact fn_back hok (hr.le hj) I1 (args := ⟨us, []⟩) (by have := hb s1 us I1.kIn (by rw [List.append_nil]; exact hl); rw [List.append_nil] at this; exact this) r q
  · have h2 := o1.seeL ds vs r1
    rw [rsvL_map] at h2
    refine ⟨{ F := (seeW w1 H1).F, cs := [], os := w1.os }, ds.map (rsv s1.S), [], _, ⟨o1.see_le, fun n c h => (by cases h), rfl, fun a m => (by cases m), List.nodup_nil⟩, nl_repL (w := seeW w1 H1) (w' := { F := (seeW w1 H1).F, cs := [], os := w1.os }) (fun _ _ e => e) _ _ h0 h2, h1, fun v H' p => ?_⟩
    obtain ⟨r, w2, σ2, s2, o2, rr, ns, ex, at1, g⟩ := p
    have keep : ∀ b u, H1 b = some u → H' b = some u := fun b u e => o2.bs b u (by rw [bOf_out (by simp)]; exact e)
    refine hq v H' r s1 w1 (o1.grow keep) ?_ e1 g
    cases r with
    | val d => exact atm_rep at1 rr
    | slo i => exact at1.elim
    | new c => exact at1.elim
end
/-! what has no cells -/
theorem nl_map {α : Type} {f : α → D} (h : ∀ a, nlD (f a) = true) (l : List α) : nlD (.lst (l.map f)) = true := by
  rw [nlD, nlL_all, List.all_map]; exact List.all_eq_true.mpr fun a _ => h a
theorem nl_str (x : Str) : nlD (.str x) = true := by rw [nlD]
theorem nl_dS (l : List Str) : nlD (dS l) = true := nl_map nl_str l
theorem nl_dSS (l : List (List Str)) : nlD (.lst (l.map dS)) = true := nl_map nl_dS l
theorem nl_dW (W : Wsh) : nlD (dW W) = true := by
  rw [nlD, nlK_all]; unfold kP; rw [List.all_map]; exact List.all_eq_true.mpr fun a _ => nl_str a.2
theorem nl_dA (A : Alw) : nlD (dA A) = true := by
  cases A with
  | none => unfold dA; rw [nlD]
  | some l => exact nl_dS l
theorem rsv_dS {S : List C} (l : List Str) : rsv S (dS l) = dS l := by rw [rsv_lst, rsv_id fun a => rsv_str]
theorem rsv_dSS {S : List C} (l : List (List Str)) : rsv S (.lst (l.map dS)) = .lst (l.map dS) := by rw [rsv_lst, rsv_id fun a => rsv_dS a]
theorem rsv_dA {S : List C} (A : Alw) : rsv S (dA A) = dA A := by
  cases A with
  | none => exact rsv_non
  | some l => exact rsv_dS l
/-! a comprehension by what is done -/
theorem comp_l {α : Type} {g : WG} {gt : WT} {fe : WV} {vs : List Nat} {K : List D → SS → Prop} {ds : List D} (e : α → D) {as : List α} (hd : ds = as.map e) {s : SS} (I : List α → List D → SS → Prop) (h : I [] [] s) (hl : as.length ≤ sizeLine)
    (step : ∀ pre a acc s, (∃ r, as = pre ++ a :: r) → I pre acc s → ∀ P : Option D → SS → Prop, (∀ s', I (pre ++ [a]) acc s' → P none s') → (∀ y s', I (pre ++ [a]) (acc ++ [y]) s' → P (some y) s') → g (e a) s fun s1 => gt s1 fun b s2 => if b = true then fe s2 fun y s3 => P (some y) (wipeS vs s3) else P none (wipeS vs s2))
    (fin : ∀ acc s, I as acc s → K acc s) : compW g gt fe vs ds [] s K := by
  subst hd
  refine comp_inv (fun i acc s => I (as.take i) acc s) (by rw [List.take_zero]; exact h) (by rw [List.length_map]; exact hl) (fun i d acc s e' hi P h0 h1 => ?_) (fun acc s hs => fin acc s (by rw [List.length_map, List.take_length] at hs; exact hs))
  rw [List.getElem?_map] at e'
  cases q : as[i]? with
  | none => rw [q] at e'; cases e'
  | some a =>
    rw [q] at e'
    cases e'
    have ht : as.take (i + 1) = as.take i ++ [a] := by rw [List.take_add_one, q]; rfl
    rw [ht] at h0 h1
    refine step (as.take i) a acc s ⟨as.drop (i + 1), ?_⟩ hi P h0 h1
    obtain ⟨hi2, e2⟩ := List.getElem?_eq_some_iff.mp q
    rw [← e2, ← List.drop_eq_getElem_cons hi2, List.take_append_drop]
def unL : D → Nat
  | .loc n => n
  | _ => 0
theorem perm_locs {ys : List D} {l : List Nat} (h : ys.Perm (l.map D.loc)) : ∃ l2 : List Nat, ys = l2.map D.loc ∧ l2.Perm l := by
  refine ⟨ys.map unL, ?_, ?_⟩
  · rw [List.map_map]
    conv => lhs; rw [← List.map_id ys]
    refine List.map_congr_left fun d hd => ?_
    obtain ⟨x, _, rfl⟩ := List.mem_map.mp (h.mem_iff.mp hd)
    rfl
  · have := h.map unL
    rw [List.map_map] at this
    have e : (unL ∘ D.loc) = id := rfl
    rw [e, List.map_id] at this
    exact this
theorem rsv_strs {S : List C} (l : List Str) : (l.map D.str).map (rsv S) = l.map D.str := rsv_id (fun a => rsv_str) l
theorem rsv_dSs {S : List C} (l : List (List Str)) : (l.map dS).map (rsv S) = l.map dS := rsv_id (fun a => rsv_dS a) l
theorem rsv_dSt {S : List C} (p : Stp) : rsv S (dSt p) = dSt p := by
  show rsv S (.tup [.str p.1, .str p.2]) = _
  rw [rsv_tup]; simp only [List.map_cons, List.map_nil, rsv_str]
theorem rsv_dM {S : List C} (l : List Stp) : rsv S (dM l) = dM l := by rw [rsv_lst, rsv_id fun a => rsv_dSt a]
theorem rsv_dSts {S : List C} (l : List Stp) : (l.map dSt).map (rsv S) = l.map dSt := rsv_id (fun a => rsv_dSt a) l
theorem rsv_nil {S : List C} : List.map (rsv S) [] = [] := rfl
theorem rsv_cons {S : List C} {d : D} {ds : List D} : List.map (rsv S) (d :: ds) = rsv S d :: List.map (rsv S) ds := rfl
theorem at_bl {b : Bool} : atm (.val (.bl b)) = True := rfl
theorem at_int {i : Int} : atm (.val (.int i)) = True := rfl
theorem at_str {x : Str} : atm (.val (.str x)) = True := rfl
theorem at_non : atm (.val .non) = True := rfl
/-! cells are added -/
theorem Gw_of {S S' : List C} (h : ∀ j, j < S.length → S'[j]? = S[j]?) (hl : S.length ≤ S'.length) : ∃ T, S' = S ++ T := by
  refine ⟨S'.drop S.length, ?_⟩
  refine List.ext_getElem? fun i => ?_
  by_cases q : i < S.length
  · rw [h i q, List.getElem?_append_left q]
  · rw [List.getElem?_append_right (by omega), List.getElem?_drop]
    congr 1
    omega
def Gw (S S' : List C) : Prop := ∃ T, S' = S ++ T
theorem Gw.refl (S : List C) : Gw S S := ⟨[], (List.append_nil _).symm⟩
theorem Gw.trans {S S' S'' : List C} (a : Gw S S') (b : Gw S' S'') : Gw S S'' := by
  obtain ⟨t, rfl⟩ := a; obtain ⟨u, rfl⟩ := b; exact ⟨t ++ u, List.append_assoc ..⟩
theorem Gw.app (S T : List C) : Gw S (S ++ T) := ⟨T, rfl⟩
theorem Gw.get {S S' : List C} (a : Gw S S') {n : Nat} {c : C} (h : S[n]? = some c) : S'[n]? = some c := by
  obtain ⟨t, rfl⟩ := a
  rw [List.getElem?_append_left (List.getElem?_eq_some_iff.mp h).1]; exact h
theorem Gw.le {S S' : List C} (a : Gw S S') : S.length ≤ S'.length := by obtain ⟨t, rfl⟩ := a; simp
end Vl
namespace Vl
open PySem PySem.Spec L2
open PyProof.Rows hiding St
/-! ### readings told by rewriting lemmas (none of them by rfl) -/
theorem y_sParO {i j : Nat} {fa fb : WE} {E : En} {ss : SS} : sParO i j fa fb E ss = (fa ss fun ra s => prep ra s fun ra s => fb s fun rb s => prep rb s fun rb s => setS j rb s fun s => setS i ra s E.nx) := propext Iff.rfl
theorem y_sParO3 {i j n : Nat} {fa fb fc : WE} {E : En} {ss : SS} : sParO3 i j n fa fb fc E ss = (fa ss fun ra s => prep ra s fun ra s => fb s fun rb s => prep rb s fun rb s => fc s fun rc s => prep rc s fun rc s => setS n rc s fun s => setS j rb s fun s => setS i ra s E.nx) := propext Iff.rfl
theorem y_fDc {fi : WI} {g : WG} {gt : WT} {fk fe : WV} {vs : List Nat} {ss : SS} {G : Re → SS → Prop} : fDc fi g gt fk fe vs ss G = (fi ss fun ds s => compD g gt fk fe vs ds [] (wipeS vs s) fun acc s' => G (.new (.dic acc)) (unwS s s' vs)) := propext Iff.rfl
theorem y_fLc2 {fi : WI} {g : WG} {gt : WT} {fi1 : WI} {g1 : WG} {gt1 : WT} {fe : WV} {vs vs1 : List Nat} {ss : SS} {G : Re → SS → Prop} : fLc2 fi g gt fi1 g1 gt1 fe vs vs1 ss G = (fi ss fun ds s => compW2 g gt fi1 g1 gt1 fe vs vs1 ds [] (wipeS vs s) fun acc s' => G (.new (.lst acc)) (unwS s s' vs)) := propext Iff.rfl
theorem y_fDc2 {fi : WI} {g : WG} {gt : WT} {fi1 : WI} {g1 : WG} {gt1 : WT} {fk fe : WV} {vs vs1 : List Nat} {ss : SS} {G : Re → SS → Prop} : fDc2 fi g gt fi1 g1 gt1 fk fe vs vs1 ss G = (fi ss fun ds s => compD2 g gt fi1 g1 gt1 fk fe vs vs1 ds [] (wipeS vs s) fun acc s' => G (.new (.dic acc)) (unwS s s' vs)) := propext Iff.rfl
theorem y_sSeq {f g : WS} {E : En} {ss : SS} : sSeq f g E ss = (f { E with nx := g E } ss) := propext Iff.rfl
theorem y_sNil {E : En} {ss : SS} : sNil E ss = (E.nx ss) := propext Iff.rfl
theorem y_sPass {E : En} {ss : SS} : sPass E ss = (E.nx ss) := propext Iff.rfl
theorem y_sBreak {E : En} {ss : SS} : sBreak E ss = (E.bk ss) := propext Iff.rfl
theorem y_sCont {E : En} {ss : SS} : sCont E ss = (E.ct ss) := propext Iff.rfl
theorem y_sDrop {fe : WE} {E : En} {ss : SS} : sDrop fe E ss = (fe ss fun _ s => E.nx s) := propext Iff.rfl
theorem y_sRet {fe : WE} {E : En} {ss : SS} : sRet fe E ss = (fe ss fun r s => rtn r s E.rt) := propext Iff.rfl
theorem y_sRetN {E : En} {ss : SS} : sRetN E ss = (E.rt (.val .non) ss.S) := propext Iff.rfl
theorem y_sIf {g : WT} {f1 f2 : WS} {E : En} {ss : SS} : sIf g f1 f2 E ss = (g ss fun c s => if c = true then f1 E s else f2 E s) := propext Iff.rfl
theorem y_sSet {i : Nat} {fe : WE} {E : En} {ss : SS} : sSet i fe E ss = (fe ss fun r s => setS i r s E.nx) := propext Iff.rfl
theorem y_sSetC {i : Nat} {fe : WE} {E : En} {ss : SS} : sSetC i fe E ss = (fe ss fun r s => toCell r s fun d s => E.nx { s with r := s.r.set i (.val d) }) := propext Iff.rfl
theorem y_sFor {fi : WI} {g : WG} {f : WS} {E : En} {ss : SS} : sFor fi g f E ss = (fi ss fun ds s => loopW g f ds E s) := propext Iff.rfl
theorem y_sAsg {fe : WE} {g : WG} {E : En} {ss : SS} : sAsg fe g E ss = (fe ss fun r s => fz r s fun d s => g d s E.nx) := propext Iff.rfl
theorem y_fCon {d : D} {ss : SS} {G : Re → SS → Prop} : fCon d ss G = (G (.val d) ss) := propext Iff.rfl
theorem y_fOp {k : KK} {fa fb : WE} {ss : SS} {G : Re → SS → Prop} : fOp k fa fb ss G = (f2 fa fb (fun a b s => vw a s fun a => vw b s fun b => k a b fun d => G d s) ss) := propext Iff.rfl
theorem y_fV {f : WE} {ss : SS} {G : D → SS → Prop} : fV f ss G = (f ss fun r ss' => fz r ss' G) := propext Iff.rfl
theorem y_fE {f : WV} {ss : SS} {G : Re → SS → Prop} : fE f ss G = (f ss fun d ss' => G (.val d) ss') := propext Iff.rfl
theorem y_fCell {f : WE} {ss : SS} {G : D → SS → Prop} : fCell f ss G = (f ss fun r ss' => toCell r ss' G) := propext Iff.rfl
theorem y_fT {f : WE} {ss : SS} {G : Bool → SS → Prop} : fT f ss G = (f ss fun r s => isB r fun i => G i s) := propext Iff.rfl
theorem y_gYes {ss : SS} {G : Bool → SS → Prop} : gYes ss G = (G true ss) := propext Iff.rfl
theorem y_gAnd {ga gb : WT} {ss : SS} {G : Bool → SS → Prop} : gAnd ga gb ss G = (ga ss fun c s => if c = true then gb s G else G false s) := propext Iff.rfl
theorem y_gOr {ga gb : WT} {ss : SS} {G : Bool → SS → Prop} : gOr ga gb ss G = (ga ss fun c s => if c = true then G true s else gb s G) := propext Iff.rfl
theorem y_gNot {ga : WT} {ss : SS} {G : Bool → SS → Prop} : gNot ga ss G = (ga ss fun c s => G (!c) s) := propext Iff.rfl
theorem y_fAnd {fa fb : WE} {ss : SS} {G : Re → SS → Prop} : fAnd fa fb ss G = (fa ss fun r s => isB r fun i => if i = true then fb s G else G (.val (.bl false)) s) := propext Iff.rfl
theorem y_fOr {fa fb : WE} {ss : SS} {G : Re → SS → Prop} : fOr fa fb ss G = (fa ss fun r s => isB r fun i => if i = true then G (.val (.bl true)) s else fb s G) := propext Iff.rfl
theorem y_fNot {fa : WE} {ss : SS} {G : Re → SS → Prop} : fNot fa ss G = (fa ss fun r s => isB r fun i => G (.val (.bl (!i))) s) := propext Iff.rfl
theorem y_fIf {g : WT} {fa fb : WE} {ss : SS} {G : Re → SS → Prop} : fIf g fa fb ss G = (g ss fun c s => if c = true then fa s G else fb s G) := propext Iff.rfl
theorem y_fNeg {fa : WE} {ss : SS} {G : Re → SS → Prop} : fNeg fa ss G = (fa ss fun r s => isI r fun i => G (.val (.int (-i))) s) := propext Iff.rfl
theorem y_fCh {p q : Int → Int → Bool} {fa fb fc : WE} {ss : SS} {G : Re → SS → Prop} : fCh p q fa fb fc ss G = (fa ss fun r s => isI r fun i => fb s fun r s => isI r fun j => if p i j = true then fc s fun r s => isI r fun k => G (.val (.bl (q j k))) s else G (.val (.bl false)) s) := propext Iff.rfl
theorem y_fCall {c : Ct} {dds : List D} {fs : WA} {ss : SS} {G : Re → SS → Prop} : fCall c dds fs ss G = (fs ss fun ds s => c (ds ++ dds) s.S fun r S' => G r { r := s.r, S := S' }) := propext Iff.rfl
theorem y_fCallK {c : Ct} {n m : Nat} {g : List D → List D → List D} {fs gs : WA} {ss : SS} {G : Re → SS → Prop} : fCallK c n m g fs gs ss G = (fs ss fun ds s => gs s fun zs s => ds.length = n ∧ zs.length = m ∧ c (g ds zs) s.S fun r S' => G r { r := s.r, S := S' }) := propext Iff.rfl
theorem y_fCons {fv : WV} {fs : WA} {ss : SS} {G : List D → SS → Prop} : fCons fv fs ss G = (fv ss fun d s => fs s fun ds s => G (d :: ds) s) := propext Iff.rfl
theorem y_fNil {ss : SS} {G : List D → SS → Prop} : fNil ss G = (G [] ss) := propext Iff.rfl
theorem y_fTup {fs : WA} {ss : SS} {G : Re → SS → Prop} : fTup fs ss G = (fs ss fun ds s => ds.length ≤ sizeLine ∧ G (.val (.tup ds)) s) := propext Iff.rfl
theorem y_fLst {fs : WA} {ss : SS} {G : Re → SS → Prop} : fLst fs ss G = (fs ss fun ds s => ds.length ≤ sizeLine ∧ G (.new (.lst ds)) s) := propext Iff.rfl
theorem y_fDnew {ss : SS} {G : Re → SS → Prop} : fDnew ss G = (G (.new (.dic [])) ss) := propext Iff.rfl
theorem y_rNil {ss : SS} {G : List Re → SS → Prop} : rNil ss G = (G [] ss) := propext Iff.rfl
theorem y_rCons {f : WE} {fs : WR} {ss : SS} {G : List Re → SS → Prop} : rCons f fs ss G = (f ss fun r s => fs s fun rs s => G (r :: rs) s) := propext Iff.rfl
theorem y_fBlt {k : KC} {fs : WR} {ss : SS} {G : Re → SS → Prop} : fBlt k fs ss G = (fs ss fun rs s => vws rs s fun ds => k ds fun r => G r s) := propext Iff.rfl
theorem y_fRg {kR : List D → (List D → Prop) → Prop} {fr : WR} {ss : SS} {G : List D → SS → Prop} : fRg kR fr ss G = (fr ss fun rs s => vws rs s fun ds => kR ds fun xs => G xs s) := propext Iff.rfl
theorem y_fAny {fe : WE} {ss : SS} {G : List D → SS → Prop} : fAny fe ss G = (fe ss fun r s => fz r s fun d s => walkD d fun ds => G ds s) := propext Iff.rfl
theorem y_fLc {fi : WI} {g : WG} {gt : WT} {fe : WV} {vs : List Nat} {ss : SS} {G : Re → SS → Prop} : fLc fi g gt fe vs ss G = (fi ss fun ds s => compW g gt fe vs ds [] (wipeS vs s) fun acc s' => G (.new (.lst acc)) (unwS s s' vs)) := propext Iff.rfl
theorem y_fSl {fa : WE} {fl fh : WO} {ss : SS} {G : Re → SS → Prop} : fSl fa fl fh ss G = (fa ss fun r s1 => fl s1 fun lo s2 => fh s2 fun hi s3 => vw r s3 fun d => kSl d lo hi fun r => G r s3) := propext Iff.rfl
theorem y_fO {f : WE} {ss : SS} {G : Option Int → SS → Prop} : fO f ss G = (f ss fun r s => isI r fun i => G (some i) s) := propext Iff.rfl
theorem y_fNoO {ss : SS} {G : Option Int → SS → Prop} : fNoO ss G = (G none ss) := propext Iff.rfl
theorem y_gNm {i : Nat} {d : D} {s : SS} {K : SS → Prop} : gNm i d s K = (K { s with r := s.r.set i (.val d) }) := propext Iff.rfl
theorem y_gPut {fo fi : WE} {d : D} {s : SS} {K : SS → Prop} : gPut fo fi d s K = (fo s fun ro s => fi s fun ri s => vw ri s fun di => onC ro s (fun c k => putC c di d k) fun _ s => K s) := propext Iff.rfl
theorem y_fM1 {f : C → D → (C → D → Prop) → Prop} {fo : WE} {fv : WV} {ss : SS} {G : Re → SS → Prop} : fM1 f fo fv ss G = (fo ss fun ro s => isLst ro s ∧ fv s fun d s => onC ro s (fun c k => f c d k) fun d' s => G (.val d') s) := propext Iff.rfl
theorem y_fBits {fe : WE} {ss : SS} {G : Re → SS → Prop} : fBits fe ss G = (fe ss fun r s => isI r fun i => G (.val (.int (Builtin.Int.intBits i))) s) := propext Iff.rfl
theorem y_kEq {a : D} {b : D} {P : Re → Prop} : kEq a b P = (cmpOk a b ∧ P (.val (.bl (eqD a b)))) := propext Iff.rfl
theorem y_kNe {a : D} {b : D} {P : Re → Prop} : kNe a b P = (cmpOk a b ∧ P (.val (.bl (!eqD a b)))) := propext Iff.rfl
theorem y_fIns {fo fi : WE} {fv : WV} {ss : SS} {G : Re → SS → Prop} : fIns fo fi fv ss G = (fo ss fun ro s => isLst ro s ∧ fi s fun ri s => isI ri fun i => fv s fun d s => onC ro s (fun c k => insC c i d k) fun d' s => G (.val d') s) := propext Iff.rfl
theorem y_fM1q {k : KK} {fo fe : WE} {ss : SS} {G : Re → SS → Prop} : fM1q k fo fe ss G = (fo ss fun ro s => isLst ro s ∧ fe s fun re s => vw ro s fun a => vw re s fun b => k a b fun d => G d s) := propext Iff.rfl
theorem y_fGet2 {fo fe fx : WE} {ss : SS} {G : Re → SS → Prop} : fGet2 fo fe fx ss G = (fo ss fun ro s => isDic ro s ∧ fe s fun re s => fz re s fun b s => fx s fun rx s => vw ro s fun d => getD2 d b rx fun r => G r s) := propext Iff.rfl
theorem y_fPop1 {fo fe : WE} {ss : SS} {G : Re → SS → Prop} : fPop1 fo fe ss G = (fo ss fun ro s => isDic ro s ∧ fe s fun re s => fz re s fun b s => onC ro s (fun c k => popC c b k) fun d s => G (.val d) s) := propext Iff.rfl
theorem y_fSrtSet {fa : WE} {ss : SS} {G : Re → SS → Prop} : fSrtSet fa ss G = (fa ss fun r s => vw r s fun d => kSet d fun r => G r s) := propext Iff.rfl
theorem y_fRev {fa : WE} {ss : SS} {G : Re → SS → Prop} : fRev fa ss G = (fa ss fun r s => vw r s fun d => revD d fun r => G r s) := propext Iff.rfl
theorem y_fLenSet {fa : WE} {ss : SS} {G : Re → SS → Prop} : fLenSet fa ss G = (fa ss fun r s => vw r s fun d => kLenSet d fun r => G r s) := propext Iff.rfl
theorem y_fSrtR {fa : WE} {ss : SS} {G : Re → SS → Prop} : fSrtR fa ss G = (fa ss fun r s => vw r s fun d => kSrtR d fun r => G r s) := propext Iff.rfl
theorem y_fRem {fo fe : WE} {ss : SS} {G : Re → SS → Prop} : fRem fo fe ss G = (fo ss fun ro s => isLst ro s ∧ fe s fun re s => fz re s fun b s => onC ro s (fun c k => remC c b k) fun d s => G (.val d) s) := propext Iff.rfl
theorem y_fPop0 {fo : WE} {ss : SS} {G : Re → SS → Prop} : fPop0 fo ss G = (fo ss fun ro s => isLst ro s ∧ onC ro s (fun c k => popL c k) fun d s => G (.val d) s) := propext Iff.rfl
theorem y_fPNil {ss : SS} {G : List (Key × D) → SS → Prop} : fPNil ss G = (G [] ss) := propext Iff.rfl
theorem y_fPCons {fk fv : WV} {fr : WP} {ss : SS} {G : List (Key × D) → SS → Prop} : fPCons fk fv fr ss G = (fk ss fun k s => fv s fun v s => fr s fun ps s => ∃ key, keyOf k = some key ∧ G ((key, v) :: ps) s) := propext Iff.rfl
theorem y_fDisp {fp : WP} {ss : SS} {G : Re → SS → Prop} : fDisp fp ss G = (fp ss fun kvs s => kvs.length ≤ 15 ∧ G (.new (.dic (mergeD [] kvs))) s) := propext Iff.rfl
theorem y_fSrtIt {fa : WE} {ss : SS} {G : Re → SS → Prop} : fSrtIt fa ss G = (fa ss fun r s => vw r s fun d => kSrtIt d fun r => G r s) := propext Iff.rfl
theorem y_fLcO {i : Nat} {g : WG} {gt : WT} {fe : WV} {vs : List Nat} {ss : SS} {G : Re → SS → Prop} : fLcO i g gt fe vs ss G = (lcO i g gt fe vs ss.r[i]? ss G) := propext Iff.rfl
theorem y_fPk {i : Nat} {f : WE} {ss : SS} {G : Re → SS → Prop} : fPk i f ss G = (pkO i f ss.r[i]? ss G) := propext Iff.rfl
theorem y_fOpR {k : KK} {fa fb : WE} {ss : SS} {G : Re → SS → Prop} : fOpR k fa fb ss G = (f2 fa fb (fun a b s => vw a s fun a => vw b s fun b => k (rsv s.S a) (rsv s.S b) fun d => atm d ∧ G d s) ss) := propext Iff.rfl
theorem y_fBltR {k : KC} {fs : WR} {ss : SS} {G : Re → SS → Prop} : fBltR k fs ss G = (fs ss fun rs s => vws rs s fun ds => k (ds.map (rsv s.S)) fun r => atm r ∧ G r s) := propext Iff.rfl
theorem y_fSrtL {fa : WE} {ss : SS} {G : Re → SS → Prop} : fSrtL fa ss G = (fa ss fun r s => vw r s fun d => kSrtL s.S d fun r => G r s) := propext Iff.rfl
theorem y_fCellS {f : WE} {ss : SS} {G : D → SS → Prop} : fCellS f ss G = (f ss fun r ss' => toCellS r ss' G) := propext Iff.rfl
theorem y_fCallP {c : Ct} {fs : WA} {ss : SS} {G : Re → SS → Prop} : fCallP c fs ss G = (fs ss fun ds s => nlL (ds.map (rsv s.S)) = true ∧ c (ds.map (rsv s.S)) [] fun r _ => atm r ∧ G r s) := propext Iff.rfl
theorem y_f2 {fa fb : WE} {k : Re → Re → SS → Prop} {ss : SS} : f2 fa fb k ss = (fa ss fun a s1 => fb s1 fun b s2 => k a b s2) := propext Iff.rfl
end Vl
namespace Vl
open PySem PySem.Spec L2
open PyProof.Rows hiding St
/-! ### the rewriting lemmas by groups -/
def V0 := And.intro (@y_sParO) <| And.intro (@y_sParO3) <| And.intro (@x_prep1) <| And.intro (@x_prep2) <| And.intro (@x_prep3) <| And.intro (@x_srt_l) <| And.intro (@x_srt_d) <| And.intro (@y_fDc) <| And.intro (@y_fLc2) <| And.intro (@y_fDc2) <| And.intro (@y_sSeq) <| @y_sNil
def V1 := And.intro (@y_sPass) <| And.intro (@y_sBreak) <| And.intro (@y_sCont) <| And.intro (@y_sDrop) <| And.intro (@y_sRet) <| And.intro (@y_sRetN) <| And.intro (@y_sIf) <| And.intro (@y_sSet) <| And.intro (@y_sSetC) <| And.intro (@y_sFor) <| And.intro (@y_sAsg) <| @y_fCon
def V2 := And.intro (@y_fOp) <| And.intro (@y_f2) <| And.intro (@y_fV) <| And.intro (@y_fE) <| And.intro (@y_fCell) <| And.intro (@y_fT) <| And.intro (@y_gYes) <| And.intro (@y_gAnd) <| And.intro (@y_gOr) <| And.intro (@y_gNot) <| And.intro (@y_fAnd) <| @y_fOr
def V3 := And.intro (@y_fNot) <| And.intro (@y_fIf) <| And.intro (@y_fNeg) <| And.intro (@y_fCh) <| And.intro (@y_fCall) <| And.intro (@y_fCallK) <| And.intro (@y_fCons) <| And.intro (@y_fNil) <| And.intro (@y_fTup) <| And.intro (@y_fLst) <| And.intro (@y_fDnew) <| @y_rNil
def V4 := And.intro (@y_rCons) <| And.intro (@y_fBlt) <| And.intro (@y_fRg) <| And.intro (@y_fAny) <| And.intro (@y_fLc) <| And.intro (@y_fSl) <| And.intro (@y_fO) <| And.intro (@y_fNoO) <| And.intro (@y_gNm) <| And.intro (@y_gPut) <| And.intro (@y_fM1) <| @y_fBits
def V5 := And.intro (@y_kEq) <| And.intro (@y_kNe) <| And.intro (@Bool.false_eq_true) <| And.intro (@true_and) <| And.intro (@and_true) <| And.intro (@D.int.injEq) <| And.intro (@D.str.injEq) <| And.intro (@D.lst.injEq) <| And.intro (@Bool.not_true) <| And.intro (@Bool.not_false) <| And.intro (@Bool.false_xor) <| @Bool.true_xor
def V6 := And.intro (@x_fVar) <| And.intro (@x_fv1) <| And.intro (@x_fv2) <| And.intro (@x_tl) <| And.intro (@x_td) <| And.intro (@x_fz1) <| And.intro (@x_fz2) <| And.intro (@x_fz3) <| And.intro (@x_fzS1) <| And.intro (@x_fzS2) <| And.intro (@x_vw_non) <| @x_vw_bl
def V7 := And.intro (@x_vw_int) <| And.intro (@x_vw_str) <| And.intro (@x_vw_lst) <| And.intro (@x_vw_tup) <| And.intro (@x_vw_dic) <| And.intro (@x_vw_raw) <| And.intro (@x_vw_loc) <| And.intro (@x_vwL) <| And.intro (@x_vw_new) <| And.intro (@x_vw_slo) <| And.intro (@x_vwS1) <| @x_vwS2
def V8 := And.intro (@x_isI) <| And.intro (@x_isB) <| And.intro (@x_add_i) <| And.intro (@x_add_s) <| And.intro (@x_add_l) <| And.intro (@x_add_t) <| And.intro (@x_mul_i) <| And.intro (@x_mul_s) <| And.intro (@x_mul_l) <| And.intro (@x_sub) <| And.intro (@x_mod) <| @x_div
def V9 := And.intro (@x_pow) <| And.intro (@x_lt_i) <| And.intro (@x_gt_i) <| And.intro (@x_le_i) <| And.intro (@x_ge_i) <| And.intro (@x_lt_s) <| And.intro (@x_gt_s) <| And.intro (@x_le_s) <| And.intro (@x_ge_s) <| And.intro (@x_in_s) <| And.intro (@x_in_ds) <| @x_in_di
def V10 := And.intro (@x_in_l) <| And.intro (@x_in_t) <| And.intro (@x_ix_l) <| And.intro (@x_ix_t) <| And.intro (@x_ix_s) <| And.intro (@x_ix_ds) <| And.intro (@x_ix_di) <| And.intro (@x_is) <| And.intro (@x_sl_l) <| And.intro (@x_sl_s) <| And.intro (@x_sl_t) <| @x_len_l
def V11 := And.intro (@x_len_t) <| And.intro (@x_len_s) <| And.intro (@x_len_d) <| And.intro (@x_list_l) <| And.intro (@x_list_t) <| And.intro (@x_sum) <| And.intro (@x_max) <| And.intro (@x_min) <| And.intro (@x_isi) <| And.intro (@x_rg1) <| And.intro (@x_rg2) <| @x_rg3
def V12 := And.intro (@x_wk_l) <| And.intro (@x_wk_t) <| And.intro (@x_wk_s) <| And.intro (@x_wk_d) <| And.intro (@x_enum) <| And.intro (@x_enS) <| And.intro (@x_zip) <| And.intro (@x_ziS) <| And.intro (@x_items) <| And.intro (@x_itS) <| And.intro (@x_values) <| @x_vaS
def V13 := And.intro (@x_rt1) <| And.intro (@x_rt2) <| And.intro (@x_rt3) <| And.intro (@x_rtS1) <| And.intro (@x_rtS2) <| And.intro (@x_set1) <| And.intro (@x_set2) <| And.intro (@x_set3) <| And.intro (@x_cell1) <| And.intro (@x_cell2) <| And.intro (@x_cell3) <| @x_on1
def V14 := And.intro (@x_on2) <| And.intro (@x_onS1) <| And.intro (@x_onS2) <| And.intro (@x_onL) <| And.intro (@x_put_l) <| And.intro (@x_put_ds) <| And.intro (@x_put_di) <| And.intro (@x_app) <| And.intro (@x_isL) <| And.intro (@x_mLst) <| And.intro (@x_tp) <| @x_gs0
def V15 := And.intro (@x_gs1) <| And.intro (@x_par2) <| And.intro (@x_par3) <| And.intro (@x_p2S) <| And.intro (@x_p3S) <| And.intro (@x_keep1) <| And.intro (@x_keep2) <| And.intro (@x_keep3) <| And.intro (@x_wR0) <| And.intro (@x_wR1) <| And.intro (@x_uR0) <| @x_uR1
def V16 := And.intro (@x_vws0) <| And.intro (@x_vws1) <| And.intro (@atI_0) <| And.intro (@atI_1) <| And.intro (@atI_2) <| And.intro (@atI_3) <| And.intro (@ixN_0) <| And.intro (@ixN_1) <| And.intro (@ixN_2) <| And.intro (@ixN_3) <| And.intro (@cmp_int) <| @cmp_str
def V17 := And.intro (@cmp_bl) <| And.intro (@eqD_int) <| And.intro (@eqD_str) <| And.intro (@eqD_bl) <| And.intro (@tT_NoneType) <| And.intro (@tT_bool) <| And.intro (@tT_int) <| And.intro (@tT_str) <| And.intro (@tT_list) <| And.intro (@tT_tuple) <| And.intro (@tT_dict) <| @tN_int
def V18 := And.intro (@tN_bool) <| And.intro (@tN_str) <| And.intro (@tN_list) <| And.intro (@tN_tuple) <| And.intro (@tN_dict) <| And.intro (@iT_NoneType_int) <| And.intro (@iT_NoneType_bool) <| And.intro (@iT_NoneType_str) <| And.intro (@iT_NoneType_list) <| And.intro (@iT_NoneType_tuple) <| And.intro (@iT_NoneType_dict) <| @iT_bool_int
def V19 := And.intro (@iT_bool_bool) <| And.intro (@iT_bool_str) <| And.intro (@iT_bool_list) <| And.intro (@iT_bool_tuple) <| And.intro (@iT_bool_dict) <| And.intro (@iT_int_int) <| And.intro (@iT_int_bool) <| And.intro (@iT_int_str) <| And.intro (@iT_int_list) <| And.intro (@iT_int_tuple) <| And.intro (@iT_int_dict) <| @iT_str_int
def V20 := And.intro (@iT_str_bool) <| And.intro (@iT_str_str) <| And.intro (@iT_str_list) <| And.intro (@iT_str_tuple) <| And.intro (@iT_str_dict) <| And.intro (@iT_list_int) <| And.intro (@iT_list_bool) <| And.intro (@iT_list_str) <| And.intro (@iT_list_list) <| And.intro (@iT_list_tuple) <| And.intro (@iT_list_dict) <| @iT_tuple_int
def V21 := And.intro (@iT_tuple_bool) <| And.intro (@iT_tuple_str) <| And.intro (@iT_tuple_list) <| And.intro (@iT_tuple_tuple) <| And.intro (@iT_tuple_dict) <| And.intro (@iT_dict_int) <| And.intro (@iT_dict_bool) <| And.intro (@iT_dict_str) <| And.intro (@iT_dict_list) <| And.intro (@iT_dict_tuple) <| And.intro (@iT_dict_dict) <| @x_seq
def V22 := And.intro (@x_sq_l) <| And.intro (@x_sq_t) <| And.intro (@x_k_s) <| And.intro (@x_k_i) <| And.intro (@Nat.zero_add) <| And.intro (@szl) <| And.intro (@decide_true) <| And.intro (@decide_false) <| And.intro (@Nat.zero_le) <| And.intro (@true_implies) <| And.intro (@ixN_10) <| @ixN_20
def V23 := And.intro (@ixN_21) <| And.intro (@ixN_30) <| And.intro (@ixN_31) <| And.intro (@ixN_32) <| And.intro (@ixN_40) <| And.intro (@ixN_41) <| And.intro (@ixN_42) <| And.intro (@ixN_43) <| And.intro (@ixN_50) <| And.intro (@ixN_51) <| And.intro (@ixN_52) <| @ixN_53
def V24 := And.intro (@ixN_54) <| And.intro (@ixN_60) <| And.intro (@ixN_61) <| And.intro (@ixN_62) <| And.intro (@ixN_63) <| And.intro (@ixN_64) <| And.intro (@ixN_65) <| And.intro (@y_fIns) <| And.intro (@x_ins) <| And.intro (@y_fM1q) <| And.intro (@x_idx) <| @y_fGet2
def V25 := And.intro (@x_isD) <| And.intro (@x_mDic) <| And.intro (@x_get2s) <| And.intro (@x_get2i) <| And.intro (@x_opt1) <| And.intro (@x_opt0) <| And.intro (@y_fPop1) <| And.intro (@x_popS) <| And.intro (@x_strI) <| And.intro (@x_tupL) <| And.intro (@x_tupT) <| @x_on3
def V26 := And.intro (@x_repr) <| And.intro (@y_fSrtSet) <| And.intro (@x_set) <| And.intro (@x_vw_oS) <| And.intro (@x_isN_oS) <| And.intro (@x_noR_oS) <| And.intro (@y_fRev) <| And.intro (@x_rev) <| And.intro (@x_eqX_d) <| And.intro (@x_neX_d) <| And.intro (@x_eqX_l) <| @x_eqX_n
def V27 := And.intro (@x_eqX_i) <| And.intro (@x_eqX_s) <| And.intro (@x_eqX_t) <| And.intro (@x_neX_l) <| And.intro (@x_neX_n) <| And.intro (@x_neX_i) <| And.intro (@x_neX_s) <| And.intro (@x_neX_t) <| And.intro (@x_minT) <| And.intro (@y_fLenSet) <| And.intro (@x_lenSet) <| @y_fSrtR
def V28 := And.intro (@x_srtR) <| And.intro (@y_fRem) <| And.intro (@x_rem) <| And.intro (@y_fPop0) <| And.intro (@x_popL) <| And.intro (@y_fPNil) <| And.intro (@y_fPCons) <| And.intro (@y_fDisp) <| And.intro (@x_dictD) <| And.intro (@y_fSrtIt) <| And.intro (@x_srtIt) <| @y_fLcO
def V29 := And.intro (@x_lcO) <| And.intro (@x_neX_b) <| And.intro (@x_eqX_b) <| And.intro (@y_fPk) <| And.intro (@x_pkO) <| And.intro (@y_fOpR) <| And.intro (@y_fBltR) <| And.intro (@x_srtL) <| And.intro (@y_fSrtL) <| And.intro (@y_fCellS) <| And.intro (@x_cS1) <| @x_cS2
def V30 := And.intro (@x_cS3) <| And.intro (@x_cS4) <| And.intro (@x_cS5) <| And.intro (@y_fCallP) <| And.intro (@rsv_strs) <| And.intro (@rsv_dSs) <| And.intro (@rsv_dS) <| And.intro (@rsv_dSt) <| And.intro (@rsv_dM) <| And.intro (@rsv_nil) <| And.intro (@rsv_cons) <| @rsv_str
def V31 := And.intro (@rsv_int) <| And.intro (@rsv_bl) <| And.intro (@rsv_non) <| And.intro (@rsv_lst) <| And.intro (@rsv_tup) <| And.intro (@at_bl) <| And.intro (@at_int) <| And.intro (@at_str) <| And.intro (@at_non) <| @rsv_dSts
end Vl
namespace Kx
open PySem PySem.Spec L2 Vl
open PyProof.Rows hiding St
def top (i : Nat) : Stmt := PySem.Challenge.pw_relabelsteps_k14_labels_lost.main.body.getD i (.Pass ⟨0, 0, 0, 0⟩)
abbrev st_is_label : Stmt := top 5
abbrev N_is_label : List Str := ["value", "sign"]
theorem sc_is_label : FnScope N_is_label ["value"] (defScope st_is_label) := ⟨rfl, rfl, rfl, by decide +kernel, rfl, by decide +kernel, by decide +kernel⟩
abbrev st_is_step : Stmt := top 6
abbrev N_is_step : List Str := ["value"]
theorem sc_is_step : FnScope N_is_step ["value"] (defScope st_is_step) := ⟨rfl, rfl, rfl, by decide +kernel, rfl, by decide +kernel, by decide +kernel⟩
abbrev st_check_script : Stmt := top 7
abbrev N_check_script : List Str := ["script", "step"]
theorem sc_check_script : FnScope N_check_script ["script"] (defScope st_check_script) := ⟨rfl, rfl, rfl, by decide +kernel, rfl, by decide +kernel, by decide +kernel⟩
abbrev st_image_of : Stmt := top 9
abbrev N_image_of : List Str := ["moves", "label", "old", "new"]
theorem sc_image_of : FnScope N_image_of ["moves", "label"] (defScope st_image_of) := ⟨rfl, rfl, rfl, by decide +kernel, rfl, by decide +kernel, by decide +kernel⟩
abbrev st_named : Stmt := top 10
abbrev N_named : List Str := ["moves", "step", "label"]
theorem sc_named : FnScope N_named ["moves"] (defScope st_named) := ⟨rfl, rfl, rfl, by decide +kernel, rfl, by decide +kernel, by decide +kernel⟩
abbrev st_sources : Stmt := top 11
abbrev N_sources : List Str := ["moves", "label", "some", "one"]
theorem sc_sources : FnScope N_sources ["moves", "label"] (defScope st_sources) := ⟨rfl, rfl, rfl, by decide +kernel, rfl, by decide +kernel, by decide +kernel⟩
abbrev st_lost : Stmt := top 12
abbrev N_lost : List Str := ["moves", "label"]
theorem sc_lost : FnScope N_lost ["moves"] (defScope st_lost) := ⟨rfl, rfl, rfl, by decide +kernel, rfl, by decide +kernel, by decide +kernel⟩
abbrev st_melted : Stmt := top 13
abbrev N_melted : List Str := ["moves", "groups", "label", "group"]
theorem sc_melted : FnScope N_melted ["moves"] (defScope st_melted) := ⟨rfl, rfl, rfl, by decide +kernel, rfl, by decide +kernel, by decide +kernel⟩
abbrev st__law_purse : Stmt := top 15
abbrev N__law_purse : List Str := ["_law_script_here", "_law_at", "_law_cell"]
theorem sc__law_purse : FnScope N__law_purse ["_law_script_here", "_law_at"] (defScope st__law_purse) := ⟨rfl, rfl, rfl, by decide +kernel, rfl, by decide +kernel, by decide +kernel⟩
abbrev st__law_mixed : Stmt := top 16
abbrev N__law_mixed : List Str := ["_law_seed", "_law_step", "_law_found"]
theorem sc__law_mixed : FnScope N__law_mixed ["_law_seed", "_law_step"] (defScope st__law_mixed) := ⟨rfl, rfl, rfl, by decide +kernel, rfl, by decide +kernel, by decide +kernel⟩
abbrev st__law_draw : Stmt := top 17
abbrev N__law_draw : List Str := ["_law_purse_here", "_law_many", "_law_found", "_law_piece", "_law_drawn"]
theorem sc__law_draw : FnScope N__law_draw ["_law_purse_here", "_law_many"] (defScope st__law_draw) := ⟨rfl, rfl, rfl, by decide +kernel, rfl, by decide +kernel, by decide +kernel⟩
abbrev st__law_one_of : Stmt := top 18
abbrev N__law_one_of : List Str := ["_law_purse_here", "_law_some"]
theorem sc__law_one_of : FnScope N__law_one_of ["_law_purse_here", "_law_some"] (defScope st__law_one_of) := ⟨rfl, rfl, rfl, by decide +kernel, rfl, by decide +kernel, by decide +kernel⟩
abbrev st__law_label : Stmt := top 19
abbrev N__law_label : List Str := ["_law_purse_here", "_law_word", "_law_turn", "_law_some"]
theorem sc__law_label : FnScope N__law_label ["_law_purse_here"] (defScope st__law_label) := ⟨rfl, rfl, rfl, by decide +kernel, rfl, by decide +kernel, by decide +kernel⟩
abbrev st__law_labels : Stmt := top 20
abbrev N__law_labels : List Str := ["_law_purse_here", "_law_many", "_law_found", "_law_turn", "_law_word", "_law_sign"]
theorem sc__law_labels : FnScope N__law_labels ["_law_purse_here", "_law_many"] (defScope st__law_labels) := ⟨rfl, rfl, rfl, by decide +kernel, rfl, by decide +kernel, by decide +kernel⟩
abbrev st__law_script : Stmt := top 21
abbrev N__law_script : List Str := ["_law_purse_here", "_law_labels_here", "_law_most", "_law_some", "_law_turn"]
theorem sc__law_script : FnScope N__law_script ["_law_purse_here", "_law_labels_here", "_law_most"] (defScope st__law_script) := ⟨rfl, rfl, rfl, by decide +kernel, rfl, by decide +kernel, by decide +kernel⟩
abbrev st__law_becomes : Stmt := top 22
abbrev N__law_becomes : List Str := ["_law_script_here", "_law_label_here", "_law_old", "_law_new"]
theorem sc__law_becomes : FnScope N__law_becomes ["_law_script_here", "_law_label_here"] (defScope st__law_becomes) := ⟨rfl, rfl, rfl, by decide +kernel, rfl, by decide +kernel, by decide +kernel⟩
abbrev st__law_names : Stmt := top 23
abbrev N__law_names : List Str := ["_law_script_here", "_law_found", "_law_old", "_law_new"]
theorem sc__law_names : FnScope N__law_names ["_law_script_here"] (defScope st__law_names) := ⟨rfl, rfl, rfl, by decide +kernel, rfl, by decide +kernel, by decide +kernel⟩
abbrev st__law_groups : Stmt := top 24
abbrev N__law_groups : List Str := ["_law_steps", "_law_found", "_law_label_here", "_law_row", "_law_one"]
theorem sc__law_groups : FnScope N__law_groups ["_law_steps"] (defScope st__law_groups) := ⟨rfl, rfl, rfl, by decide +kernel, rfl, by decide +kernel, by decide +kernel⟩
abbrev st__law_right : Stmt := top 25
abbrev N__law_right : List Str := ["_law_steps", "_law_row", "_law_groups_here", "_law_kept", "_law_due", "_law_melt", "_law_told", "_law_seen", "_law_label_here"]
theorem sc__law_right : FnScope N__law_right ["_law_steps"] (defScope st__law_right) := ⟨rfl, rfl, rfl, by decide +kernel, rfl, by decide +kernel, by decide +kernel⟩
abbrev st_law : Stmt := top 26
abbrev N_law : List Str := ["_law_script_here", "_law_cell", "_law_purse_here", "_law_turn", "_law_labels_here"]
theorem sc_law : FnScope N_law ["_law_script_here"] (defScope st_law) := ⟨rfl, rfl, rfl, by decide +kernel, rfl, by decide +kernel, by decide +kernel⟩
structure Txt (mg : Str → Option Value) : Prop where
  isinstance : mg "isinstance" = none
  str_ : mg "str" = none
  len : mg "len" = none
  tuple_ : mg "tuple" = none
  list_ : mg "list" = none
  sorted : mg "sorted" = none
  sum : mg "sum" = none
  max : mg "max" = none
  range : mg "range" = none
  set : mg "set" = none
  repr : mg "repr" = none
  c_SIGNS : ∃ t, mg "SIGNS" = some (.str "abcdefghijklmnopqrstuvwxyz0123456789-" t)
def Fr (n : Nat) (S S' : List C) : Prop := S'.length = S.length ∧ ∀ j, j ≠ n → S'[j]? = S[j]?
theorem Fr.refl (n : Nat) (S : List C) : Fr n S S := ⟨rfl, fun _ _ => rfl⟩
theorem Fr.trans {n : Nat} {S S' S'' : List C} (a : Fr n S S') (b : Fr n S' S'') : Fr n S S'' := ⟨b.1.trans a.1, fun j h => (b.2 j h).trans (a.2 j h)⟩
theorem Fr.set {n : Nat} {S : List C} {c : C} : Fr n S (S.set n c) := ⟨List.length_set, fun j h => List.getElem?_set_ne fun e => h e.symm⟩
structure Purse (c : C) (k : Nat) : Prop where
  ex : ∃ (a b z : Int), c = .lst [.int a, .int b, .int z] ∧ 0 ≤ a ∧ a < 10 ^ 480 ∧ 0 ≤ b ∧ b < 2 ^ 31 ∧ 0 ≤ z ∧ z ≤ k
def Has (S : List C) (n k : Nat) : Prop := ∃ c, S[n]? = some c ∧ Purse c k
theorem Has.mono {S : List C} {n k m : Nat} (h : Has S n k) (h' : k ≤ m) : Has S n m := by
  obtain ⟨c, e, a, b, z, r, h1, h2, h3, h4, h5, h6⟩ := h
  exact ⟨c, e, ⟨a, b, z, r, h1, h2, h3, h4, h5, by omega⟩⟩
theorem Has.new {S : List C} {c : C} {k : Nat} (h : Purse c k) : Has (S ++ [c]) S.length k := ⟨c, by simp, h⟩
def c_is_label : Ct := fun ds S G => ∃ x, ds = [.str x] ∧ IsLab x ∧ G (.val (.bl true)) S
def c_is_step : Ct := fun ds S G => ∃ m : Stp, ds = [dSt m] ∧ (IsLab m.1 ∧ IsLab m.2) ∧ G (.val (.bl true)) S
def c_check_script : Ct := fun ds S G => ∃ ms : List Stp, ds = [dM ms] ∧ ms.length ≤ 100000 ∧ IsScr ms ∧ G (.val .non) S
def c_image_of : Ct := fun ds S G => ∃ (ms : List Stp) (x : Str), ds = [dM ms, .str x] ∧ G (.val (.str (imgF ms x))) S
def c_named : Ct := fun ds S G => ∃ ms : List Stp, ds = [dM ms] ∧ ms.length ≤ 300000 ∧ G (.new (.lst ((nmF ms).map .str))) S
def c_sources : Ct := fun ds S G => ∃ (ms : List Stp) (x : Str), ds = [dM ms, .str x] ∧ ms.length ≤ 100000 ∧ G (.new (.lst ((soF ms x).map .str))) S
def c_lost : Ct := fun ds S G => ∃ ms : List Stp, ds = [dM ms] ∧ ms.length ≤ 100000 ∧ IsScr ms ∧ G (.new (.lst ((lsF ms).map .str))) S
--@ needs draws
--@ needs purseA
def c__law_purse : Ct := fun ds S G => ∃ (ns : List Int) (i : Nat), ds = [.lst (ns.map D.int), .int i] ∧ ns.length ≤ 63 ∧ i ≤ 63 ∧ ∀ c, Purse c 63000 → G (.new c) S
def c__law_mixed : Ct := fun ds S G => ∃ (a z : Int), ds = [.int a, .int z] ∧ 0 ≤ a ∧ a < 2 ^ 31 ∧ 0 ≤ z ∧ z ≤ 2 ^ 50 ∧ ∀ r, 0 ≤ r → r < 2 ^ 31 → G (.val (.int r)) S
def c__law_draw : Ct := fun ds S G => ∃ (n : Nat) (m : Int) (k : Nat), ds = [.loc n, .int m] ∧ Has S n k ∧ k ≤ 2 ^ 40 ∧ 0 < m ∧ m < 2 ^ 64 ∧ ∀ (r : Nat) (S' : List C), (r : Int) < m → Fr n S S' → Has S' n (k + 3) → G (.val (.int r)) S'
def c__law_one_of : Ct := fun ds S G => ∃ (n : Nat) (xs : List D) (k : Nat), ds = [.loc n, .lst xs] ∧ Has S n k ∧ k ≤ 2 ^ 40 ∧ xs ≠ [] ∧ xs.length < 2 ^ 60 ∧ ∀ d ∈ xs, ∀ S' : List C, Fr n S S' → Has S' n (k + 3) → G (.val d) S'
def c__law_label : Ct := fun ds S G => ∃ (n k : Nat), ds = [.loc n] ∧ Has S n k ∧ k ≤ 2 ^ 39 ∧ ∀ (x : Str) (S' : List C), IsLab x → Fr n S S' → Has S' n (k + 200) → G (.val (.str x)) S'
def c__law_labels : Ct := fun ds S G => ∃ (n k m : Nat), ds = [.loc n, .int m] ∧ m ≤ 1000 ∧ Has S n k ∧ k ≤ 2 ^ 38 ∧ ∀ (l : List Str) (S' : List C), Labs l → l.Nodup → l.length ≤ m → (m ≤ 10 → l.length = m) → (0 < m → l ≠ []) → Fr n S S' → Has S' n (k + 200 * m) → G (.new (.lst (l.map .str))) S'
def c__law_script : Ct := fun ds S G => ∃ (n k : Nat) (l : List Str) (m : Nat), ds = [.loc n, dS l, .int m] ∧ m ≤ 1000 ∧ l.length ≤ 1000 ∧ Labs l ∧ Has S n k ∧ k ≤ 2 ^ 37 ∧ ∀ (ms : List Stp) (S' : List C), IsScr ms → ms.length ≤ m → Fr n S S' → Has S' n (k + 10000) → G (.new (.lst (ms.map dSt))) S'
def c__law_becomes : Ct := fun ds S G => ∃ (ms : List Stp) (x : Str), ds = [dM ms, .str x] ∧ G (.val (.str (imgF ms x))) S
def c__law_names : Ct := fun ds S G => ∃ ms : List Stp, ds = [dM ms] ∧ ms.length ≤ 2000 ∧ G (.new (.lst ((nmF ms).map .str))) S
def c_melted : Ct := fun ds S G => ∃ ms : List Stp, ds = [dM ms] ∧ ms.length ≤ 2000 ∧ IsScr ms ∧ ∀ (ls : List Nat) (S' : List C), Gw S S' → ls.Nodup → (∀ n ∈ ls, S.length ≤ n ∧ ∃ r : List Str, S'[n]? = some (.lst (r.map D.str)) ∧ Labs r ∧ r.length ≤ 10000) → (ls.map fun n => rsv S' (.loc n)) = meF ms → G (.new (.lst (ls.map .loc))) S'
def c__law_groups : Ct := fun ds S G => ∃ ms : List Stp, ds = [dM ms] ∧ ms.length ≤ 2000 ∧ IsScr ms ∧ G (.new (.lst ((nmF ms).map fun x => D.tup [.str x, dS ((nmF ms).filter fun y => decide (imgF ms y = x))]))) S
def c__law_right : Ct := fun ds S G => ∃ ms : List Stp, ds = [dM ms] ∧ ms.length ≤ 8 ∧ IsScr ms ∧ ∀ S', Gw S S' → G (.val (.bl true)) S'
def c_law : Ct := fun ds S G => ∃ ns : List Int, ds = [.lst (ns.map D.int)] ∧ ns.length ≤ 63 ∧ (∀ z ∈ ns, Builtin.Int.intBits z ≤ 1048576) ∧ S = [] ∧ ∀ S', G (.val (.bl true)) S'
theorem of_script {ns : List Int} (hl : ns.length ≤ 63) (hb : ∀ z ∈ ns, Builtin.Int.intBits z ≤ 1048576) : c_law [.lst (ns.map D.int)] [] (fun r _ => r = .val (.bl true)) := ⟨ns, rfl, hl, hb, rfl, fun _ => rfl⟩
theorem len_is_label : ∀ ds S G, c_is_label ds S G → ds.length = 1 := by
  intro ds S G h
  repeat (first | (obtain ⟨rfl, _⟩ := h; rfl) | (obtain ⟨_, h⟩ := h))
theorem len_is_step : ∀ ds S G, c_is_step ds S G → ds.length = 1 := by
  intro ds S G h
  repeat (first | (obtain ⟨rfl, _⟩ := h; rfl) | (obtain ⟨_, h⟩ := h))
theorem len_check_script : ∀ ds S G, c_check_script ds S G → ds.length = 1 := by
  intro ds S G h
  repeat (first | (obtain ⟨rfl, _⟩ := h; rfl) | (obtain ⟨_, h⟩ := h))
theorem len_image_of : ∀ ds S G, c_image_of ds S G → ds.length = 2 := by
  intro ds S G h
  repeat (first | (obtain ⟨rfl, _⟩ := h; rfl) | (obtain ⟨_, h⟩ := h))
theorem len_named : ∀ ds S G, c_named ds S G → ds.length = 1 := by
  intro ds S G h
  repeat (first | (obtain ⟨rfl, _⟩ := h; rfl) | (obtain ⟨_, h⟩ := h))
theorem len_sources : ∀ ds S G, c_sources ds S G → ds.length = 2 := by
  intro ds S G h
  repeat (first | (obtain ⟨rfl, _⟩ := h; rfl) | (obtain ⟨_, h⟩ := h))
theorem len_lost : ∀ ds S G, c_lost ds S G → ds.length = 1 := by
  intro ds S G h
  repeat (first | (obtain ⟨rfl, _⟩ := h; rfl) | (obtain ⟨_, h⟩ := h))
theorem len_melted : ∀ ds S G, c_melted ds S G → ds.length = 1 := by
  intro ds S G h
  repeat (first | (obtain ⟨rfl, _⟩ := h; rfl) | (obtain ⟨_, h⟩ := h))
theorem len__law_purse : ∀ ds S G, c__law_purse ds S G → ds.length = 2 := by
  intro ds S G h
  repeat (first | (obtain ⟨rfl, _⟩ := h; rfl) | (obtain ⟨_, h⟩ := h))
theorem len__law_mixed : ∀ ds S G, c__law_mixed ds S G → ds.length = 2 := by
  intro ds S G h
  repeat (first | (obtain ⟨rfl, _⟩ := h; rfl) | (obtain ⟨_, h⟩ := h))
theorem len__law_draw : ∀ ds S G, c__law_draw ds S G → ds.length = 2 := by
  intro ds S G h
  repeat (first | (obtain ⟨rfl, _⟩ := h; rfl) | (obtain ⟨_, h⟩ := h))
theorem len__law_one_of : ∀ ds S G, c__law_one_of ds S G → ds.length = 2 := by
  intro ds S G h
  repeat (first | (obtain ⟨rfl, _⟩ := h; rfl) | (obtain ⟨_, h⟩ := h))
theorem len__law_label : ∀ ds S G, c__law_label ds S G → ds.length = 1 := by
  intro ds S G h
  repeat (first | (obtain ⟨rfl, _⟩ := h; rfl) | (obtain ⟨_, h⟩ := h))
theorem len__law_labels : ∀ ds S G, c__law_labels ds S G → ds.length = 2 := by
  intro ds S G h
  repeat (first | (obtain ⟨rfl, _⟩ := h; rfl) | (obtain ⟨_, h⟩ := h))
theorem len__law_script : ∀ ds S G, c__law_script ds S G → ds.length = 3 := by
  intro ds S G h
  repeat (first | (obtain ⟨rfl, _⟩ := h; rfl) | (obtain ⟨_, h⟩ := h))
theorem len__law_becomes : ∀ ds S G, c__law_becomes ds S G → ds.length = 2 := by
  intro ds S G h
  repeat (first | (obtain ⟨rfl, _⟩ := h; rfl) | (obtain ⟨_, h⟩ := h))
theorem len__law_names : ∀ ds S G, c__law_names ds S G → ds.length = 1 := by
  intro ds S G h
  repeat (first | (obtain ⟨rfl, _⟩ := h; rfl) | (obtain ⟨_, h⟩ := h))
theorem len__law_groups : ∀ ds S G, c__law_groups ds S G → ds.length = 1 := by
  intro ds S G h
  repeat (first | (obtain ⟨rfl, _⟩ := h; rfl) | (obtain ⟨_, h⟩ := h))
theorem len__law_right : ∀ ds S G, c__law_right ds S G → ds.length = 1 := by
  intro ds S G h
  repeat (first | (obtain ⟨rfl, _⟩ := h; rfl) | (obtain ⟨_, h⟩ := h))
theorem len_law : ∀ ds S G, c_law ds S G → ds.length = 1 := by
  intro ds S G h
  repeat (first | (obtain ⟨rfl, _⟩ := h; rfl) | (obtain ⟨_, h⟩ := h))
def fb_is_label : WS := (sSeq (sIf (gOr (gNot (fT (fBlt kIsi (rCons (fVar 0) (rCons (fCon (.raw (.ty "str"))) rNil))))) (gNot (fT (fCh (fun i j => decide (i ≤ j)) (fun i j => decide (i ≤ j)) (fCon (.int 1)) (fBlt kLen (rCons (fVar 0) rNil)) (fCon (.int 40)))))) (sRet (fCon (.bl false))) sNil) (sRet (fOp kEq (fLc (fAny (fVar 0)) (gNm 1) (fT (fOp (kIn true) (fVar 1) (fCon (.str "abcdefghijklmnopqrstuvwxyz0123456789-")))) (fV (fVar 1)) [1]) (fLst fNil))))
def fb_is_step : WS := (sRet (fAnd (fBlt kIsi (rCons (fVar 0) (rCons (fCon (.raw (.ty "tuple"))) rNil))) (fAnd (fOp kEq (fBlt kLen (rCons (fVar 0) rNil)) (fCon (.int 2))) (fAnd (fCall c_is_label [] (fCons (fV (fOp kIx (fVar 0) (fCon (.int 0)))) fNil)) (fCall c_is_label [] (fCons (fV (fOp kIx (fVar 0) (fCon (.int 1)))) fNil))))))
def fb_check_script : WS := (sIf (gOr (gNot (fT (fBlt kIsi (rCons (fVar 0) (rCons (fCon (.raw (.ty "list"))) rNil))))) (fT (fOp kNe (fLc (fAny (fVar 0)) (gNm 1) (gNot (fT (fCall c_is_step [] (fCons (fV (fVar 1)) fNil)))) (fV (fVar 1)) [1]) (fLst fNil)))) sNever sNil)
def fb_image_of : WS := (sSeq (sFor (fAny (fVar 0)) (gTp 2 (gsCons (gNm 2) (gsCons (gNm 3) gsNil))) (sIf (fT (fOp kEq (fVar 1) (fVar 2))) (sSet 1 (fVar 3)) sNil)) (sRet (fVar 1)))
def fb_named : WS := (sRet (fBlt kSrtA (rCons (fDc2 (fAny (fVar 0)) (gNm 1) gYes (fSeq (fV (fVar 1))) (gNm 2) gYes (fV (fVar 2)) (fV (fCon (.bl true))) [1, 2] [2]) rNil)))
def fb_sources : WS := (sSeq (sSet 2 (fE (fV (fBlt kSrtA (rCons (fDc (fAny (fOp kAdd (fCall c_named [] (fCons (fV (fVar 0)) fNil)) (fLst (fCons (fV (fVar 1)) fNil)))) (gNm 3) gYes (fV (fVar 3)) (fV (fCon (.bl true))) [3]) rNil))))) (sRet (fLc (fAny (fVar 2)) (gNm 3) (fT (fOp kEq (fCall c_image_of [] (fCons (fV (fVar 0)) (fCons (fV (fVar 3)) fNil))) (fVar 1))) (fV (fVar 3)) [3])))
def fb_lost : WS := (sSeq (sDrop (fCall c_check_script [] (fCons (fV (fVar 0)) fNil))) (sRet (fLc (fAny (fCall c_named [] (fCons (fV (fVar 0)) fNil))) (gNm 1) (fT (fOp kEq (fCall c_sources [] (fCons (fV (fVar 0)) (fCons (fV (fVar 1)) fNil))) (fLst fNil))) (fV (fVar 1)) [1])))
def fb_melted : WS := (sSeq (sDrop (fCall c_check_script [] (fCons (fV (fVar 0)) fNil))) (sSeq (sSet 1 (fLc (fAny (fCall c_named [] (fCons (fV (fVar 0)) fNil))) (gNm 2) gYes (fCell (fCall c_sources [] (fCons (fV (fVar 0)) (fCons (fV (fVar 2)) fNil)))) [2])) (sRet (fSrtL (fLc (fAny (fVar 1)) (gNm 3) (fT (fOp kGt (fBlt kLen (rCons (fVar 3) rNil)) (fCon (.int 1)))) (fCell (fVar 3)) [3])))))
def fb__law_purse : WS := (sSeq (sSet 2 (fE (fV (fBlt kSum (rCons (fSl (fVar 0) (fO (fVar 1)) (fO (fOp kAdd (fVar 1) (fCon (.int 1))))) rNil))))) (sRet (fLst (fCons (fV (fOp kMod (fBlt kMx (rCons (fOp kSub (fVar 2) (fOp kPow (fCon (.int 10)) (fCon (.int 18)))) (rCons (fCon (.int 0)) rNil))) (fOp kPow (fOp kPow (fCon (.int 10)) (fCon (.int 60))) (fCon (.int 8))))) (fCons (fV (fOp kMod (fVar 2) (fCon (.int 2147483629)))) (fCons (fV (fOp kMul (fCon (.int 1000)) (fVar 1))) fNil))))))
def fb__law_mixed : WS := (sSeq (sSet 2 (fE (fV (fOp kMod (fOp kAdd (fOp kAdd (fOp kMul (fVar 0) (fCon (.int 69069))) (fOp kMul (fOp kMul (fCon (.int 104729)) (fVar 1)) (fVar 1))) (fVar 1)) (fCon (.int 2147483647)))))) (sSeq (sSet 2 (fE (fV (fOp kMod (fOp kAdd (fOp kMul (fVar 2) (fVar 2)) (fCon (.int 40503))) (fCon (.int 2147483629)))))) (sRet (fOp kMod (fOp kMul (fVar 2) (fCon (.int 48271))) (fCon (.int 2147483587))))))
def fb__law_draw : WS := (sSeq (sIf (fT (fOp kGt (fOp kIx (fVar 0) (fCon (.int 0))) (fCon (.int 0)))) (sSeq (sSet 4 (fE (fV (fOp kMod (fOp kIx (fVar 0) (fCon (.int 0))) (fVar 1))))) (sSeq (sAsg (fOp kDiv (fOp kIx (fVar 0) (fCon (.int 0))) (fVar 1)) (gPut (fVar 0) (fCon (.int 0)))) (sRet (fVar 4)))) sNil) (sSeq (sSet 2 (fCon (.int 0))) (sSeq (sFor (fRg kRg1 (rCons (fOp kAdd (fCon (.int 1)) (fOp kDiv (fBits (fVar 1)) (fCon (.int 28)))) rNil)) (gNm 3) (sSeq (sAsg (fOp kAdd (fOp kIx (fVar 0) (fCon (.int 2))) (fCon (.int 1))) (gPut (fVar 0) (fCon (.int 2)))) (sSet 2 (fE (fV (fOp kAdd (fOp kMul (fVar 2) (fCon (.int 2147483587))) (fCall c__law_mixed [] (fCons (fV (fOp kIx (fVar 0) (fCon (.int 1)))) (fCons (fV (fOp kIx (fVar 0) (fCon (.int 2)))) fNil))))))))) (sRet (fOp kMod (fVar 2) (fVar 1))))))
def fb__law_one_of : WS := (sRet (fOp kIx (fVar 1) (fCall c__law_draw [] (fCons (fV (fVar 0)) (fCons (fV (fBlt kLen (rCons (fVar 1) rNil))) fNil)))))
def fb__law_label : WS := (sSeq (sSet 1 (fCon (.str ""))) (sSeq (sFor (fRg kRg1 (rCons (fOp kIx (fLst (fCons (fV (fCon (.int 1))) (fCons (fV (fCon (.int 1))) (fCons (fV (fCon (.int 2))) (fCons (fV (fCon (.int 3))) (fCons (fV (fOp kAdd (fCon (.int 1)) (fCall c__law_draw [] (fCons (fV (fVar 0)) (fCons (fV (fCon (.int 40))) fNil))))) (fCons (fV (fCon (.int 40))) fNil))))))) (fCall c__law_draw [] (fCons (fV (fVar 0)) (fCons (fV (fCon (.int 6))) fNil)))) rNil)) (gNm 2) (sSet 1 (fE (fV (fOp kAdd (fVar 1) (fOp kIx (fCon (.str "abcdefghijklmnopqrstuvwxyz0123456789-")) (fCall c__law_draw [] (fCons (fV (fVar 0)) (fCons (fV (fCon (.int 37))) fNil))))))))) (sSeq (sSet 3 (fE (fV (fLst (fCons (fV (fCon (.str "a"))) (fCons (fV (fCon (.str "b"))) (fCons (fV (fCon (.str "c"))) (fCons (fV (fCon (.str "d"))) (fCons (fV (fCon (.str "on"))) (fCons (fV (fCon (.str "off"))) (fCons (fV (fCon (.str "0"))) (fCons (fV (fCon (.str "1"))) (fCons (fV (fCon (.str "9"))) (fCons (fV (fCon (.str "-"))) (fCons (fV (fCon (.str "a-"))) (fCons (fV (fCon (.str "a2"))) (fCons (fV (fCon (.str "spare"))) (fCons (fV (fCon (.str "spare-0"))) fNil)))))))))))))))))) (sRet (fOp kIx (fOp kAdd (fVar 3) (fOp kMul (fLst (fCons (fV (fVar 1)) fNil)) (fCon (.int 6)))) (fCall c__law_draw [] (fCons (fV (fVar 0)) (fCons (fV (fCon (.int 20))) fNil))))))))
def fb__law_labels : WS := (sSeq (sSet 2 (fLst fNil)) (sSeq (sFor (fRg kRg1 (rCons (fVar 1) rNil)) (gNm 3) (sSeq (sSet 4 (fE (fV (fCall c__law_label [] (fCons (fV (fVar 0)) fNil))))) (sSeq (sFor (fAny (fCon (.str "zyxwvutsrq"))) (gNm 5) (sIf (fT (fOp (kIn false) (fVar 4) (fVar 2))) (sSet 4 (fE (fV (fOp kAdd (fVar 5) (fSl (fVar 4) fNoO (fO (fCon (.int 39)))))))) sNil)) (sIf (fT (fOp (kIn true) (fVar 4) (fVar 2))) (sDrop (fM1 appC (fVar 2) (fV (fVar 4)))) sNil)))) (sRet (fVar 2))))
def fb__law_script : WS := (sSeq (sSet 3 (fE (fV (fOp kAdd (fVar 1) (fCall c__law_labels [] (fCons (fV (fVar 0)) (fCons (fV (fCon (.int 2))) fNil))))))) (sRet (fLc (fRg kRg1 (rCons (fCall c__law_draw [] (fCons (fV (fVar 0)) (fCons (fV (fOp kAdd (fVar 2) (fCon (.int 1)))) fNil))) rNil)) (gNm 4) gYes (fV (fTup (fCons (fV (fCall c__law_one_of [] (fCons (fV (fVar 0)) (fCons (fV (fVar 3)) fNil)))) (fCons (fV (fCall c__law_one_of [] (fCons (fV (fVar 0)) (fCons (fV (fVar 3)) fNil)))) fNil)))) [4])))
def fb__law_becomes : WS := (sSeq (sFor (fAny (fVar 0)) (gTp 2 (gsCons (gNm 2) (gsCons (gNm 3) gsNil))) (sSet 1 (fE (fV (fIf (fT (fOp kEq (fVar 1) (fVar 2))) (fVar 3) (fVar 1)))))) (sRet (fVar 1)))
def fb__law_names : WS := (sSeq (sSet 1 (fE (fV (fLst fNil)))) (sSeq (sFor (fAny (fVar 0)) (gTp 2 (gsCons (gNm 2) (gsCons (gNm 3) gsNil))) (sSet 1 (fE (fV (fOp kAdd (fVar 1) (fLst (fCons (fV (fVar 2)) (fCons (fV (fVar 3)) fNil)))))))) (sRet (fSrtSet (fVar 1)))))
def fb__law_groups : WS := (sSeq (sSet 1 (fLst fNil)) (sSeq (sFor (fAny (fCall c__law_names [] (fCons (fV (fVar 0)) fNil))) (gNm 2) (sSeq (sSet 3 (fLc (fAny (fCall c__law_names [] (fCons (fV (fVar 0)) fNil))) (gNm 4) (fT (fOp kEq (fCall c__law_becomes [] (fCons (fV (fVar 0)) (fCons (fV (fVar 4)) fNil))) (fVar 2))) (fV (fVar 4)) [4])) (sDrop (fM1 appC (fVar 1) (fV (fTup (fCons (fV (fVar 2)) (fCons (fV (fVar 3)) fNil)))))))) (sRet (fVar 1))))
def fb__law_right : WS := (sSeq (sParO 2 3 (fE (fV (fCall c__law_groups [] (fCons (fV (fVar 0)) fNil)))) (fE (fV (fBltR kRepr (rCons (fVar 0) rNil))))) (sSeq (sParO 4 5 (fE (fV (fLc (fAny (fVar 2)) (gTp 2 (gsCons (gNm 8) (gsCons (gNm 1) gsNil))) (fT (fOpR kEq (fVar 1) (fLst fNil))) (fV (fVar 8)) [8, 1]))) (fE (fV (fBlt kSrtA (rCons (fLc (fAny (fVar 2)) (gTp 2 (gsCons (gNm 8) (gsCons (gNm 1) gsNil))) (fT (fOp kGt (fBlt kLen (rCons (fVar 1) rNil)) (fCon (.int 1)))) (fV (fVar 1)) [8, 1]) rNil))))) (sSeq (sParO 6 7 (fCall c_lost [] (fCons (fV (fVar 0)) fNil)) (fE (fV (fCall c_melted [] (fCons (fV (fVar 0)) fNil))))) (sSeq (sIf (gOr (fT (fOpR kNe (fVar 6) (fVar 4))) (gOr (fT (fOpR kNe (fVar 7) (fVar 5))) (fT (fOpR kNe (fBltR kRepr (rCons (fVar 0) rNil)) (fVar 3))))) (sRet (fCon (.bl false))) sNil) (sSeq (sFor (fAny (fVar 7)) (gNm 1) (sDrop (fM1 appC (fVar 1) (fV (fCon (.str "spoilt")))))) (sSeq (sDrop (fM1 appC (fVar 6) (fV (fCon (.str "spoilt"))))) (sRet (fAnd (fOpR kEq (fCall c_lost [] (fCons (fV (fVar 0)) fNil)) (fVar 4)) (fOpR kEq (fCall c_melted [] (fCons (fV (fVar 0)) fNil)) (fVar 5))))))))))
def fb_law : WS := (sSeq (sFor (fRg kRg1 (rCons (fBlt kMx (rCons (fCon (.int 1)) (rCons (fBlt kLen (rCons (fSl (fVar 0) fNoO (fO (fCon (.int 20)))) rNil)) rNil))) rNil)) (gNm 1) (sSeq (sSetC 2 (fCall c__law_purse [] (fCons (fV (fVar 0)) (fCons (fV (fVar 1)) fNil)))) (sFor (fRg kRg1 (rCons (fCon (.int 4)) rNil)) (gNm 3) (sSeq (sSet 4 (fE (fV (fCall c__law_labels [] (fCons (fV (fVar 2)) (fCons (fV (fOp kAdd (fCon (.int 1)) (fCall c__law_draw [] (fCons (fV (fVar 2)) (fCons (fV (fCon (.int 5))) fNil))))) fNil)))))) (sIf (gNot (fT (fCall c__law_right [] (fCons (fV (fCall c__law_script [] (fCons (fV (fVar 2)) (fCons (fV (fVar 4)) (fCons (fV (fCon (.int 8))) fNil))))) fNil)))) (sRet (fCon (.bl false))) sNil))))) (sSeq (sIf (gOr (fT (fOpR kNe (fCall c_lost [] (fCons (fV (fLst (fCons (fV (fTup (fCons (fV (fCon (.str "a"))) (fCons (fV (fCon (.str "a"))) fNil)))) fNil))) fNil)) (fLst fNil))) (gOr (fT (fOpR kNe (fCall c_melted [] (fCons (fV (fLst (fCons (fV (fTup (fCons (fV (fCon (.str "a"))) (fCons (fV (fCon (.str "b"))) fNil)))) fNil))) fNil)) (fLst (fCons (fV (fLst (fCons (fV (fCon (.str "a"))) (fCons (fV (fCon (.str "b"))) fNil)))) fNil)))) (fT (fOpR kNe (fCall c_lost [] (fCons (fV (fLst (fCons (fV (fTup (fCons (fV (fCon (.str "a"))) (fCons (fV (fCon (.str "b"))) fNil)))) fNil))) fNil)) (fLst (fCons (fV (fCon (.str "a"))) fNil)))))) (sRet (fCon (.bl false))) sNil) (sRet (fAnd (fOpR kEq (fCall c_lost [] (fCons (fV (fLst fNil)) fNil)) (fLst fNil)) (fOpR kEq (fCall c_melted [] (fCons (fV (fLst fNil)) fNil)) (fLst fNil))))))
section
variable {P : Program} {w : World} {K : PySem.W.Frag} {mg : Str → Option Value} {base : Heap}
theorem ds_is_label (T : Txt mg)  {f : Addr} {cdv : Value} {A : Around} {outer : List Env} {s : Shared} {H : Hp} {E : XK} (hr : RoomG 0 (A.deeper (envOfC "is_label" (defScope st_is_label) s.heap.objs.size f cdv))) : DSs (cxOf CX0 P w K mg base N_is_label "is_label" (defScope st_is_label) f cdv A outer s H E).nox (defBody st_is_label) fb_is_label := by
  have nd := sc_is_label.nd
  exact (dss_cons (ds_if (dt_w (dw_or (dt_not (dt_val (de_isi T.isinstance rfl (dr_cons (de_v 0) (dr_cons (de_ty T.str_ bt_str rfl) dr_nil))))) (dw_or1 (dt_not (dt_lele de_int (de_len T.len rfl (dr_cons (de_v 0) dr_nil)) de_int))))) (dss_one (ds_ret de_bl)) dss_nil)
    (dss_one (ds_ret (de_eq (hU hr) (de_lc (own := [("sign", 1)]) rfl nd (blkOk_by (N := N_is_label) (sc := defScope st_is_label) (by decide +kernel)) (di_any (de_v 0)) (fun _ _ _ _ _ => (dg_name 1 nd)) (by decide) (fun _ _ _ _ _ => (dts_one (dt_notin (hU5 hr) (de_v 1) (de_gstr rfl T.c_SIGNS)))) (fun _ _ _ _ _ => (dv (de_v 1)))) (de_lst da_nil)))))
theorem ds_is_step (T : Txt mg) (F_is_label : FnC P w K mg base "is_label" st_is_label ["value"] c_is_label 1) {f : Addr} {cdv : Value} {A : Around} {outer : List Env} {s : Shared} {H : Hp} {E : XK} (hr : RoomG 1 (A.deeper (envOfC "is_step" (defScope st_is_step) s.heap.objs.size f cdv))) : DSs (cxOf CX0 P w K mg base N_is_step "is_step" (defScope st_is_step) f cdv A outer s H E).nox (defBody st_is_step) fb_is_step := by
  have nd := sc_is_step.nd
  exact (dss_one (ds_ret (de_and (de_isi T.isinstance rfl (dr_cons (de_v 0) (dr_cons (de_ty T.tuple_ bt_tuple rfl) dr_nil))) (de_and (de_eq (hU hr) (de_len T.len rfl (dr_cons (de_v 0) dr_nil)) de_int) (de_and (de_fn F_is_label (da_cons (dv (de_ix (hU1 hr) (de_v 0) de_int)) da_nil) hr) (de_one (de_fn F_is_label (da_cons (dv (de_ix (hU1 hr) (de_v 0) de_int)) da_nil) hr)))))))
theorem ds_check_script (T : Txt mg) (F_is_step : FnC P w K mg base "is_step" st_is_step ["value"] c_is_step 2) {f : Addr} {cdv : Value} {A : Around} {outer : List Env} {s : Shared} {H : Hp} {E : XK} (hr : RoomG 2 (A.deeper (envOfC "check_script" (defScope st_check_script) s.heap.objs.size f cdv))) : DSs (cxOf CX0 P w K mg base N_check_script "check_script" (defScope st_check_script) f cdv A outer s H E).nox (defBody st_check_script) fb_check_script := by
  have nd := sc_check_script.nd
  exact (dss_one (ds_if (dt_w (dw_or (dt_not (dt_val (de_isi T.isinstance rfl (dr_cons (de_v 0) (dr_cons (de_ty T.list_ bt_list rfl) dr_nil))))) (dw_or1 (dt_ne (hU hr) (de_lc (own := [("step", 1)]) rfl nd (blkOk_by (N := N_check_script) (sc := defScope st_check_script) (by decide +kernel)) (di_any (de_v 0)) (fun _ _ _ _ _ => (dg_name 1 nd)) (by decide) (fun _ _ _ _ _ => (dts_one (dt_not (dt_val (de_fn F_is_step (da_cons (dv (de_v 1)) da_nil) hr))))) (fun _ _ _ _ _ => (dv (de_v 1)))) (de_lst da_nil))))) (dss_one ds_never) dss_nil))
theorem ds_image_of (T : Txt mg)  {f : Addr} {cdv : Value} {A : Around} {outer : List Env} {s : Shared} {H : Hp} {E : XK} (hr : RoomG 0 (A.deeper (envOfC "image_of" (defScope st_image_of) s.heap.objs.size f cdv))) : DSs (cxOf CX0 P w K mg base N_image_of "image_of" (defScope st_image_of) f cdv A outer s H E).nox (defBody st_image_of) fb_image_of := by
  have nd := sc_image_of.nd
  exact (dss_cons (ds_for PassesOwn.never rfl (di_any (de_v 0)) (dg_tup rfl (dgs_cons (dg_name 2 nd) (dgs_cons (dg_name 3 nd) dgs_nil))) (dss_one (ds_if (dt_eq (hU hr) (de_v 1) (de_v 2)) (dss_one (ds_set (i := 1) nd (de_v 3))) dss_nil)))
    (dss_one (ds_ret (de_v 1))))
theorem ds_named (T : Txt mg)  {f : Addr} {cdv : Value} {A : Around} {outer : List Env} {s : Shared} {H : Hp} {E : XK} (hr : RoomG 0 (A.deeper (envOfC "named" (defScope st_named) s.heap.objs.size f cdv))) : DSs (cxOf CX0 P w K mg base N_named "named" (defScope st_named) f cdv A outer s H E).nox (defBody st_named) fb_named := by
  have nd := sc_named.nd
  exact (dss_one (ds_ret (de_srtA hr.hd (hU hr) T.sorted rfl (dr_cons (de_dc2 (own := [("step", 1), ("label", 2)]) (vs1 := [2]) rfl nd (blkOk_by (N := N_named) (sc := defScope st_named) (by decide +kernel)) (di_any (de_v 0)) (fun _ _ _ _ _ => (dg_name 1 nd)) (fun _ _ _ _ _ => dts_nil) (fun _ _ _ _ _ => (dj_seq (dv (de_v 1)))) (fun _ _ _ _ _ => (dg_name 2 nd)) (fun _ _ _ _ _ => dts_nil) (fun _ _ _ _ _ => (dv (de_v 2))) (fun _ _ _ _ _ => (dv de_bl))) dr_nil))))
theorem ds_sources (T : Txt mg) (F_named : FnC P w K mg base "named" st_named ["moves"] c_named 1) (F_image_of : FnC P w K mg base "image_of" st_image_of ["moves", "label"] c_image_of 1) {f : Addr} {cdv : Value} {A : Around} {outer : List Env} {s : Shared} {H : Hp} {E : XK} (hr : RoomG 1 (A.deeper (envOfC "sources" (defScope st_sources) s.heap.objs.size f cdv))) : DSs (cxOf CX0 P w K mg base N_sources "sources" (defScope st_sources) f cdv A outer s H E).nox (defBody st_sources) fb_sources := by
  have nd := sc_sources.nd
  exact (dss_cons (ds_set (i := 2) nd (de (dv (de_srtA hr.hd (hU hr) T.sorted rfl (dr_cons (de_dc (own := [("one", 3)]) rfl nd (blkOk_by (N := N_sources) (sc := defScope st_sources) (by decide +kernel)) (di_any (de_add (de_fn F_named (da_cons (dv (de_v 0)) da_nil) hr) (de_lst (da_cons (dv (de_v 1)) da_nil)))) (fun _ _ _ _ _ => (dg_name 3 nd)) (by decide) (fun _ _ _ _ _ => dts_nil) (fun _ _ _ _ _ => (dv (de_v 3))) (fun _ _ _ _ _ => (dv de_bl))) dr_nil)))))
    (dss_one (ds_ret (de_lc (own := [("one", 3)]) rfl nd (blkOk_by (N := N_sources) (sc := defScope st_sources) (by decide +kernel)) (di_any (de_v 2)) (fun _ _ _ _ _ => (dg_name 3 nd)) (by decide) (fun _ _ _ _ _ => (dts_one (dt_eq (hU hr) (de_fn F_image_of (da_cons (dv (de_v 0)) (da_cons (dv (de_v 3)) da_nil)) hr) (de_v 1)))) (fun _ _ _ _ _ => (dv (de_v 3)))))))
theorem ds_lost (T : Txt mg) (F_check_script : FnC P w K mg base "check_script" st_check_script ["script"] c_check_script 3) (F_named : FnC P w K mg base "named" st_named ["moves"] c_named 1) (F_sources : FnC P w K mg base "sources" st_sources ["moves", "label"] c_sources 2) {f : Addr} {cdv : Value} {A : Around} {outer : List Env} {s : Shared} {H : Hp} {E : XK} (hr : RoomG 3 (A.deeper (envOfC "lost" (defScope st_lost) s.heap.objs.size f cdv))) : DSs (cxOf CX0 P w K mg base N_lost "lost" (defScope st_lost) f cdv A outer s H E).nox (defBody st_lost) fb_lost := by
  have nd := sc_lost.nd
  exact (dss_cons (ds_expr (de_fn F_check_script (da_cons (dv (de_v 0)) da_nil) hr))
    (dss_one (ds_ret (de_lc (own := [("label", 1)]) rfl nd (blkOk_by (N := N_lost) (sc := defScope st_lost) (by decide +kernel)) (di_any (de_fn F_named (da_cons (dv (de_v 0)) da_nil) hr)) (fun _ _ _ _ _ => (dg_name 1 nd)) (by decide) (fun _ _ _ _ _ => (dts_one (dt_eq (hU hr) (de_fn F_sources (da_cons (dv (de_v 0)) (da_cons (dv (de_v 1)) da_nil)) hr) (de_lst da_nil)))) (fun _ _ _ _ _ => (dv (de_v 1)))))))
theorem ds_melted (T : Txt mg) (F_check_script : FnC P w K mg base "check_script" st_check_script ["script"] c_check_script 3) (F_named : FnC P w K mg base "named" st_named ["moves"] c_named 1) (F_sources : FnC P w K mg base "sources" st_sources ["moves", "label"] c_sources 2) {f : Addr} {cdv : Value} {A : Around} {outer : List Env} {s : Shared} {H : Hp} {E : XK} (hr : RoomG 3 (A.deeper (envOfC "melted" (defScope st_melted) s.heap.objs.size f cdv))) : DSs (cxOf CX0 P w K mg base N_melted "melted" (defScope st_melted) f cdv A outer s H E).nox (defBody st_melted) fb_melted := by
  have nd := sc_melted.nd
  exact (dss_cons (ds_expr (de_fn F_check_script (da_cons (dv (de_v 0)) da_nil) hr))
    (dss_cons (ds_setLc (own := [("label", 2)]) rfl nd (by rfl) (blkOk_by (N := N_melted) (sc := defScope st_melted) (by decide +kernel)) (di_any (de_fn F_named (da_cons (dv (de_v 0)) da_nil) hr)) (fun _ _ _ _ _ => (dg_name 2 nd)) (by decide) (fun _ _ _ _ _ => dts_nil) (fun _ _ _ _ _ => (dv_cell (de_fn F_sources (da_cons (dv (de_v 0)) (da_cons (dv (de_v 2)) da_nil)) hr))))
    (dss_one (ds_ret (de_srtL (hU hr) T.sorted (de_lc (own := [("group", 3)]) rfl nd (blkOk_by (N := N_melted) (sc := defScope st_melted) (by decide +kernel)) (di_any (de_v 1)) (fun _ _ _ _ _ => (dg_name 3 nd)) (by decide) (fun _ _ _ _ _ => (dts_one (dt_gt (de_len T.len rfl (dr_cons (de_v 3) dr_nil)) de_int))) (fun _ _ _ _ _ => (dv_cell (de_v 3)))))))))
theorem ds__law_purse (T : Txt mg)  {f : Addr} {cdv : Value} {A : Around} {outer : List Env} {s : Shared} {H : Hp} {E : XK} (hr : RoomG 0 (A.deeper (envOfC "_law_purse" (defScope st__law_purse) s.heap.objs.size f cdv))) : DSs (cxOf CX0 P w K mg base N__law_purse "_law_purse" (defScope st__law_purse) f cdv A outer s H E).nox (defBody st__law_purse) fb__law_purse := by
  have nd := sc__law_purse.nd
  exact (dss_cons (ds_set (i := 2) nd (de (dv (de_sum rfl T.sum rfl (dr_cons (de_slice (de_v 0) (do_some (de_v 1)) (do_some (de_add (de_v 1) de_int))) dr_nil)))))
    (dss_one (ds_ret (de_lst (da_cons (dv (de_mod (de_max2 rfl T.max rfl (dr_cons (de_sub (de_v 2) (de_pow de_int de_int)) (dr_cons de_int dr_nil))) (de_pow (de_pow de_int de_int) de_int))) (da_cons (dv (de_mod (de_v 2) de_int)) (da_cons (dv (de_mul de_int (de_v 1))) da_nil)))))))
theorem ds__law_mixed (T : Txt mg)  {f : Addr} {cdv : Value} {A : Around} {outer : List Env} {s : Shared} {H : Hp} {E : XK} (hr : RoomG 0 (A.deeper (envOfC "_law_mixed" (defScope st__law_mixed) s.heap.objs.size f cdv))) : DSs (cxOf CX0 P w K mg base N__law_mixed "_law_mixed" (defScope st__law_mixed) f cdv A outer s H E).nox (defBody st__law_mixed) fb__law_mixed := by
  have nd := sc__law_mixed.nd
  exact (dss_cons (ds_set (i := 2) nd (de (dv (de_mod (de_add (de_add (de_mul (de_v 0) de_int) (de_mul (de_mul de_int (de_v 1)) (de_v 1))) (de_v 1)) de_int))))
    (dss_cons (ds_set (i := 2) nd (de (dv (de_mod (de_add (de_mul (de_v 2) (de_v 2)) de_int) de_int))))
    (dss_one (ds_ret (de_mod (de_mul (de_v 2) de_int) de_int)))))
theorem ds__law_draw (T : Txt mg) (F__law_mixed : FnC P w K mg base "_law_mixed" st__law_mixed ["_law_seed", "_law_step"] c__law_mixed 1) {f : Addr} {cdv : Value} {A : Around} {outer : List Env} {s : Shared} {H : Hp} {E : XK} (hr : RoomG 1 (A.deeper (envOfC "_law_draw" (defScope st__law_draw) s.heap.objs.size f cdv))) : DSs (cxOf CX0 P w K mg base N__law_draw "_law_draw" (defScope st__law_draw) f cdv A outer s H E).nox (defBody st__law_draw) fb__law_draw := by
  have nd := sc__law_draw.nd
  exact (dss_cons (ds_if (dt_gt (de_ix (hU1 hr) (de_v 0) de_int) de_int) (dss_cons (ds_set (i := 4) nd (de (dv (de_mod (de_ix (hU1 hr) (de_v 0) de_int) (de_v 1)))))
    (dss_cons (ds_asg (de_div (de_ix (hU1 hr) (de_v 0) de_int) (de_v 1)) (dg_put (hU1 hr) (de_v 0) de_int (by intro _; rfl)))
    (dss_one (ds_ret (de_v 4))))) dss_nil)
    (dss_cons (ds_set (i := 2) nd de_int)
    (dss_cons (ds_for PassesOwn.never rfl (di_range1 T.range rfl (dr_cons (de_add de_int (de_div (de_bits (de_v 1)) de_int)) dr_nil)) (dg_name 3 nd) (dss_cons (ds_asg (de_add (de_ix (hU1 hr) (de_v 0) de_int) de_int) (dg_put (hU1 hr) (de_v 0) de_int (by intro _; rfl)))
    (dss_one (ds_set (i := 2) nd (de (dv (de_add (de_mul (de_v 2) de_int) (de_fn F__law_mixed (da_cons (dv (de_ix (hU1 hr) (de_v 0) de_int)) (da_cons (dv (de_ix (hU1 hr) (de_v 0) de_int)) da_nil)) hr))))))))
    (dss_one (ds_ret (de_mod (de_v 2) (de_v 1)))))))
theorem ds__law_one_of (T : Txt mg) (F__law_draw : FnC P w K mg base "_law_draw" st__law_draw ["_law_purse_here", "_law_many"] c__law_draw 2) {f : Addr} {cdv : Value} {A : Around} {outer : List Env} {s : Shared} {H : Hp} {E : XK} (hr : RoomG 2 (A.deeper (envOfC "_law_one_of" (defScope st__law_one_of) s.heap.objs.size f cdv))) : DSs (cxOf CX0 P w K mg base N__law_one_of "_law_one_of" (defScope st__law_one_of) f cdv A outer s H E).nox (defBody st__law_one_of) fb__law_one_of := by
  have nd := sc__law_one_of.nd
  exact (dss_one (ds_ret (de_ix (hU1 hr) (de_v 1) (de_fn F__law_draw (da_cons (dv (de_v 0)) (da_cons (dv (de_len T.len rfl (dr_cons (de_v 1) dr_nil))) da_nil)) hr))))
theorem ds__law_label (T : Txt mg) (F__law_draw : FnC P w K mg base "_law_draw" st__law_draw ["_law_purse_here", "_law_many"] c__law_draw 2) {f : Addr} {cdv : Value} {A : Around} {outer : List Env} {s : Shared} {H : Hp} {E : XK} (hr : RoomG 2 (A.deeper (envOfC "_law_label" (defScope st__law_label) s.heap.objs.size f cdv))) : DSs (cxOf CX0 P w K mg base N__law_label "_law_label" (defScope st__law_label) f cdv A outer s H E).nox (defBody st__law_label) fb__law_label := by
  have nd := sc__law_label.nd
  exact (dss_cons (ds_set (i := 1) nd de_str)
    (dss_cons (ds_for PassesOwn.never rfl (di_range1 T.range rfl (dr_cons (de_ix (hU1 hr) (de_lst (da_cons (dv de_int) (da_cons (dv de_int) (da_cons (dv de_int) (da_cons (dv de_int) (da_cons (dv (de_add de_int (de_fn F__law_draw (da_cons (dv (de_v 0)) (da_cons (dv de_int) da_nil)) hr))) (da_cons (dv de_int) da_nil))))))) (de_fn F__law_draw (da_cons (dv (de_v 0)) (da_cons (dv de_int) da_nil)) hr)) dr_nil)) (dg_name 2 nd) (dss_one (ds_set (i := 1) nd (de (dv (de_add (de_v 1) (de_ix (hU1 hr) de_str (de_fn F__law_draw (da_cons (dv (de_v 0)) (da_cons (dv de_int) da_nil)) hr))))))))
    (dss_cons (ds_set (i := 3) nd (de (dv (de_lst (da_cons (dv de_str) (da_cons (dv de_str) (da_cons (dv de_str) (da_cons (dv de_str) (da_cons (dv de_str) (da_cons (dv de_str) (da_cons (dv de_str) (da_cons (dv de_str) (da_cons (dv de_str) (da_cons (dv de_str) (da_cons (dv de_str) (da_cons (dv de_str) (da_cons (dv de_str) (da_cons (dv de_str) da_nil))))))))))))))))))
    (dss_one (ds_ret (de_ix (hU1 hr) (de_add (de_v 3) (de_mul (de_lst (da_cons (dv (de_v 1)) da_nil)) de_int)) (de_fn F__law_draw (da_cons (dv (de_v 0)) (da_cons (dv de_int) da_nil)) hr)))))))
theorem ds__law_labels (T : Txt mg) (F__law_label : FnC P w K mg base "_law_label" st__law_label ["_law_purse_here"] c__law_label 3) {f : Addr} {cdv : Value} {A : Around} {outer : List Env} {s : Shared} {H : Hp} {E : XK} (hr : RoomG 3 (A.deeper (envOfC "_law_labels" (defScope st__law_labels) s.heap.objs.size f cdv))) : DSs (cxOf CX0 P w K mg base N__law_labels "_law_labels" (defScope st__law_labels) f cdv A outer s H E).nox (defBody st__law_labels) fb__law_labels := by
  have nd := sc__law_labels.nd
  exact (dss_cons (ds_set (i := 2) nd (de_lst da_nil))
    (dss_cons (ds_for PassesOwn.never rfl (di_range1 T.range rfl (dr_cons (de_v 1) dr_nil)) (dg_name 3 nd) (dss_cons (ds_set (i := 4) nd (de (dv (de_fn F__law_label (da_cons (dv (de_v 0)) da_nil) hr))))
    (dss_cons (ds_for PassesOwn.never rfl (di_any de_str) (dg_name 5 nd) (dss_one (ds_if (dt_in (hU5 hr) (de_v 4) (de_v 2)) (dss_one (ds_set (i := 4) nd (de (dv (de_add (de_v 5) (de_slice (de_v 4) do_none (do_some de_int))))))) dss_nil)))
    (dss_one (ds_if (dt_notin (hU5 hr) (de_v 4) (de_v 2)) (dss_one (ds_expr (de_append (de_v 2) (dv (de_v 4))))) dss_nil)))))
    (dss_one (ds_ret (de_v 2)))))
theorem ds__law_script (T : Txt mg) (F__law_labels : FnC P w K mg base "_law_labels" st__law_labels ["_law_purse_here", "_law_many"] c__law_labels 4) (F__law_draw : FnC P w K mg base "_law_draw" st__law_draw ["_law_purse_here", "_law_many"] c__law_draw 2) (F__law_one_of : FnC P w K mg base "_law_one_of" st__law_one_of ["_law_purse_here", "_law_some"] c__law_one_of 3) {f : Addr} {cdv : Value} {A : Around} {outer : List Env} {s : Shared} {H : Hp} {E : XK} (hr : RoomG 4 (A.deeper (envOfC "_law_script" (defScope st__law_script) s.heap.objs.size f cdv))) : DSs (cxOf CX0 P w K mg base N__law_script "_law_script" (defScope st__law_script) f cdv A outer s H E).nox (defBody st__law_script) fb__law_script := by
  have nd := sc__law_script.nd
  exact (dss_cons (ds_set (i := 3) nd (de (dv (de_add (de_v 1) (de_fn F__law_labels (da_cons (dv (de_v 0)) (da_cons (dv de_int) da_nil)) hr)))))
    (dss_one (ds_ret (de_lc (own := [("_law_turn", 4)]) rfl nd (blkOk_by (N := N__law_script) (sc := defScope st__law_script) (by decide +kernel)) (di_range1 T.range rfl (dr_cons (de_fn F__law_draw (da_cons (dv (de_v 0)) (da_cons (dv (de_add (de_v 2) de_int)) da_nil)) hr) dr_nil)) (fun _ _ _ _ _ => (dg_name 4 nd)) (by decide) (fun _ _ _ _ _ => dts_nil) (fun _ _ _ _ _ => (dv (de_tup (da_cons (dv (de_fn F__law_one_of (da_cons (dv (de_v 0)) (da_cons (dv (de_v 3)) da_nil)) hr)) (da_cons (dv (de_fn F__law_one_of (da_cons (dv (de_v 0)) (da_cons (dv (de_v 3)) da_nil)) hr)) da_nil)))))))))
theorem ds__law_becomes (T : Txt mg)  {f : Addr} {cdv : Value} {A : Around} {outer : List Env} {s : Shared} {H : Hp} {E : XK} (hr : RoomG 0 (A.deeper (envOfC "_law_becomes" (defScope st__law_becomes) s.heap.objs.size f cdv))) : DSs (cxOf CX0 P w K mg base N__law_becomes "_law_becomes" (defScope st__law_becomes) f cdv A outer s H E).nox (defBody st__law_becomes) fb__law_becomes := by
  have nd := sc__law_becomes.nd
  exact (dss_cons (ds_for PassesOwn.never rfl (di_any (de_v 0)) (dg_tup rfl (dgs_cons (dg_name 2 nd) (dgs_cons (dg_name 3 nd) dgs_nil))) (dss_one (ds_set (i := 1) nd (de (dv (de_if (dt_eq (hU hr) (de_v 1) (de_v 2)) (de_v 3) (de_v 1)))))))
    (dss_one (ds_ret (de_v 1))))
theorem ds__law_names (T : Txt mg)  {f : Addr} {cdv : Value} {A : Around} {outer : List Env} {s : Shared} {H : Hp} {E : XK} (hr : RoomG 0 (A.deeper (envOfC "_law_names" (defScope st__law_names) s.heap.objs.size f cdv))) : DSs (cxOf CX0 P w K mg base N__law_names "_law_names" (defScope st__law_names) f cdv A outer s H E).nox (defBody st__law_names) fb__law_names := by
  have nd := sc__law_names.nd
  exact (dss_cons (ds_set (i := 1) nd (de (dv (de_lst da_nil))))
    (dss_cons (ds_for PassesOwn.never rfl (di_any (de_v 0)) (dg_tup rfl (dgs_cons (dg_name 2 nd) (dgs_cons (dg_name 3 nd) dgs_nil))) (dss_one (ds_set (i := 1) nd (de (dv (de_add (de_v 1) (de_lst (da_cons (dv (de_v 2)) (da_cons (dv (de_v 3)) da_nil)))))))))
    (dss_one (ds_ret (de_srtSet rfl (hU hr) T.sorted T.set (de_v 1))))))
theorem ds__law_groups (T : Txt mg) (F__law_names : FnC P w K mg base "_law_names" st__law_names ["_law_script_here"] c__law_names 1) (F__law_becomes : FnC P w K mg base "_law_becomes" st__law_becomes ["_law_script_here", "_law_label_here"] c__law_becomes 1) {f : Addr} {cdv : Value} {A : Around} {outer : List Env} {s : Shared} {H : Hp} {E : XK} (hr : RoomG 1 (A.deeper (envOfC "_law_groups" (defScope st__law_groups) s.heap.objs.size f cdv))) : DSs (cxOf CX0 P w K mg base N__law_groups "_law_groups" (defScope st__law_groups) f cdv A outer s H E).nox (defBody st__law_groups) fb__law_groups := by
  have nd := sc__law_groups.nd
  exact (dss_cons (ds_set (i := 1) nd (de_lst da_nil))
    (dss_cons (ds_for PassesOwn.never rfl (di_any (de_fn F__law_names (da_cons (dv (de_v 0)) da_nil) hr)) (dg_name 2 nd) (dss_cons (ds_setLc (own := [("_law_one", 4)]) rfl nd (by rfl) (blkOk_by (N := N__law_groups) (sc := defScope st__law_groups) (by decide +kernel)) (di_any (de_fn F__law_names (da_cons (dv (de_v 0)) da_nil) hr)) (fun _ _ _ _ _ => (dg_name 4 nd)) (by decide) (fun _ _ _ _ _ => (dts_one (dt_eq (hU hr) (de_fn F__law_becomes (da_cons (dv (de_v 0)) (da_cons (dv (de_v 4)) da_nil)) hr) (de_v 2)))) (fun _ _ _ _ _ => (dv (de_v 4))))
    (dss_one (ds_expr (de_append (de_v 1) (dv (de_tup (da_cons (dv (de_v 2)) (da_cons (dv (de_v 3)) da_nil)))))))))
    (dss_one (ds_ret (de_v 1)))))
theorem ds__law_right (T : Txt mg) (F__law_groups : FnC P w K mg base "_law_groups" st__law_groups ["_law_steps"] c__law_groups 2) (F_lost : FnC P w K mg base "lost" st_lost ["moves"] c_lost 4) (F_melted : FnC P w K mg base "melted" st_melted ["moves"] c_melted 4) {f : Addr} {cdv : Value} {A : Around} {outer : List Env} {s : Shared} {H : Hp} {E : XK} (hr : RoomG 4 (A.deeper (envOfC "_law_right" (defScope st__law_right) s.heap.objs.size f cdv))) : DSs (cxOf CX0 P w K mg base N__law_right "_law_right" (defScope st__law_right) f cdv A outer s H E).nox (defBody st__law_right) fb__law_right := by
  have nd := sc__law_right.nd
  exact (dss_cons (ds_parO 2 3 nd (de (dv (de_fn F__law_groups (da_cons (dv (de_v 0)) da_nil) hr))) (de (dv (de_reprR hr T.repr rfl (dr_cons (de_v 0) dr_nil)))))
    (dss_cons (ds_parO 4 5 nd (de (dv (de_lc (own := [("_law_label_here", 8), ("_law_row", 1)]) rfl nd (blkOk_by (N := N__law_right) (sc := defScope st__law_right) (by decide +kernel)) (di_any (de_v 2)) (fun _ _ _ _ _ => (dg_tup rfl (dgs_cons (dg_name 8 nd) (dgs_cons (dg_name 1 nd) dgs_nil)))) (by decide) (fun _ _ _ _ _ => (dts_one (dt_eqR (hU hr) (de_v 1) (de_lst da_nil)))) (fun _ _ _ _ _ => (dv (de_v 8)))))) (de (dv (de_srtA hr.hd (hU hr) T.sorted rfl (dr_cons (de_lc (own := [("_law_label_here", 8), ("_law_row", 1)]) rfl nd (blkOk_by (N := N__law_right) (sc := defScope st__law_right) (by decide +kernel)) (di_any (de_v 2)) (fun _ _ _ _ _ => (dg_tup rfl (dgs_cons (dg_name 8 nd) (dgs_cons (dg_name 1 nd) dgs_nil)))) (by decide) (fun _ _ _ _ _ => (dts_one (dt_gt (de_len T.len rfl (dr_cons (de_v 1) dr_nil)) de_int))) (fun _ _ _ _ _ => (dv (de_v 1)))) dr_nil)))))
    (dss_cons (ds_parO 6 7 nd (de_fn F_lost (da_cons (dv (de_v 0)) da_nil) hr) (de (dv (de_fn F_melted (da_cons (dv (de_v 0)) da_nil) hr))))
    (dss_cons (ds_if (dt_w (dw_or (dt_neR (hU hr) (de_v 6) (de_v 4)) (dw_or (dt_neR (hU hr) (de_v 7) (de_v 5)) (dw_or1 (dt_neR (hU hr) (de_reprR hr T.repr rfl (dr_cons (de_v 0) dr_nil)) (de_v 3)))))) (dss_one (ds_ret de_bl)) dss_nil)
    (dss_cons (ds_for PassesOwn.never rfl (di_any (de_v 7)) (dg_name 1 nd) (dss_one (ds_expr (de_append (de_v 1) (dv de_str)))))
    (dss_cons (ds_expr (de_append (de_v 6) (dv de_str)))
    (dss_one (ds_ret (de_and (de_eqR (hU hr) (de_fn F_lost (da_cons (dv (de_v 0)) da_nil) hr) (de_v 4)) (de_one (de_eqR (hU hr) (de_fn F_melted (da_cons (dv (de_v 0)) da_nil) hr) (de_v 5))))))))))))
theorem ds_law (T : Txt mg) (F__law_purse : FnC P w K mg base "_law_purse" st__law_purse ["_law_script_here", "_law_at"] c__law_purse 1) (F__law_labels : FnC P w K mg base "_law_labels" st__law_labels ["_law_purse_here", "_law_many"] c__law_labels 4) (F__law_draw : FnC P w K mg base "_law_draw" st__law_draw ["_law_purse_here", "_law_many"] c__law_draw 2) (F__law_right : FnC P w K mg base "_law_right" st__law_right ["_law_steps"] c__law_right 5) (F__law_script : FnC P w K mg base "_law_script" st__law_script ["_law_purse_here", "_law_labels_here", "_law_most"] c__law_script 5) (F_lost : FnC P w K mg base "lost" st_lost ["moves"] c_lost 4) (F_melted : FnC P w K mg base "melted" st_melted ["moves"] c_melted 4) {f : Addr} {cdv : Value} {A : Around} {outer : List Env} {s : Shared} {H : Hp} {E : XK} (hr : RoomG 5 (A.deeper (envOfC "law" (defScope st_law) s.heap.objs.size f cdv))) : DSs (cxOf CX0 P w K mg base N_law "law" (defScope st_law) f cdv A outer s H E).nox (defBody st_law) fb_law := by
  have nd := sc_law.nd
  exact (dss_cons (ds_for PassesOwn.never rfl (di_range1 T.range rfl (dr_cons (de_max2 rfl T.max rfl (dr_cons de_int (dr_cons (de_len T.len rfl (dr_cons (de_slice (de_v 0) do_none (do_some de_int)) dr_nil)) dr_nil))) dr_nil)) (dg_name 1 nd) (dss_cons (ds_setC (i := 2) nd (de_fn F__law_purse (da_cons (dv (de_v 0)) (da_cons (dv (de_v 1)) da_nil)) hr))
    (dss_one (ds_for PassesOwn.never rfl (di_range1 T.range rfl (dr_cons de_int dr_nil)) (dg_name 3 nd) (dss_cons (ds_set (i := 4) nd (de (dv (de_fn F__law_labels (da_cons (dv (de_v 2)) (da_cons (dv (de_add de_int (de_fn F__law_draw (da_cons (dv (de_v 2)) (da_cons (dv de_int) da_nil)) hr))) da_nil)) hr))))
    (dss_one (ds_if (dt_not (dt_val (de_fn F__law_right (da_cons (dv (de_fn F__law_script (da_cons (dv (de_v 2)) (da_cons (dv (de_v 4)) (da_cons (dv de_int) da_nil))) hr)) da_nil) hr))) (dss_one (ds_ret de_bl)) dss_nil)))))))
    (dss_cons (ds_if (dt_w (dw_or (dt_neR (hU hr) (de_fn F_lost (da_cons (dv (de_lst (da_cons (dv (de_tup (da_cons (dv de_str) (da_cons (dv de_str) da_nil)))) da_nil))) da_nil) hr) (de_lst da_nil)) (dw_or (dt_neR (hU hr) (de_fn F_melted (da_cons (dv (de_lst (da_cons (dv (de_tup (da_cons (dv de_str) (da_cons (dv de_str) da_nil)))) da_nil))) da_nil) hr) (de_lst (da_cons (dv (de_lst (da_cons (dv de_str) (da_cons (dv de_str) da_nil)))) da_nil))) (dw_or1 (dt_neR (hU hr) (de_fn F_lost (da_cons (dv (de_lst (da_cons (dv (de_tup (da_cons (dv de_str) (da_cons (dv de_str) da_nil)))) da_nil))) da_nil) hr) (de_lst (da_cons (dv de_str) da_nil))))))) (dss_one (ds_ret de_bl)) dss_nil)
    (dss_one (ds_ret (de_and (de_eqR (hU hr) (de_fn F_lost (da_cons (dv (de_lst da_nil)) da_nil) hr) (de_lst da_nil)) (de_one (de_eqR (hU hr) (de_fn F_melted (da_cons (dv (de_lst da_nil)) da_nil) hr) (de_lst da_nil))))))))
end
theorem law_is_label : ∀ ds S G, c_is_label ds S G → fb_is_label (enOf G) (startS N_is_label ds S) := by
  rintro ds S G ⟨x, rfl, hx, h⟩
  show fb_is_label (enOf G) ⟨[.val (.str x), .no], S⟩
  unfold fb_is_label
  have h1 := hx.lo
  have h2 := hx.hi
  have e1 : decide (1 ≤ (x.length : Int)) = true := decide_eq_true (by omega)
  have e2 : decide ((x.length : Int) ≤ 40) = true := decide_eq_true (by omega)
  simp only [V0, V1, V2, V3, V4, V5, V6, V7, V8, V9, V10, V11, V12, V13, V14, V15, V16, V17, V18, V19, V20, V21, V22, V23, V24, V25, V26, V27, V28, V29, V30, V31, enOf, wipeS, unwS, List.getElem?_cons_zero, List.getElem?_cons_succ, List.set_cons_zero, List.set_cons_succ, List.append_nil, List.nil_append, List.cons_append, if_true, if_false, if_pos, exists_eq_left', exists_eq_left, exists_and_left, Option.some.injEq, exists_const, ite_true, ite_false, reduceIte, tyD, List.length_cons, List.length_nil, Nat.reduceAdd, Nat.reduceLeDiff, Nat.reduceLT, Int.cast_ofNat_Int, eq_self, Int.reduceEq, Int.reduceLT, Int.reduceLE, e1, e2]
  refine ⟨by omega, comp_0 (fun c => D.str ⟨#[c]⟩) (as := x.cps.toList) rfl (by rw [← str_len_list, szl]; omega) (fun c hc P hP => ?_) ⟨cmp_ly (n := 1) (m := 1) ly_nil ly_nil, h⟩⟩
  simp only [V0, V1, V2, V3, V4, V5, V6, V7, V8, V9, V10, V11, V12, V13, V14, V15, V16, V17, V18, V19, V20, V21, V22, V23, V24, V25, V26, V27, V28, V29, V30, V31, enOf, wipeS, unwS, List.getElem?_cons_zero, List.getElem?_cons_succ, List.set_cons_zero, List.set_cons_succ, List.append_nil, List.nil_append, List.cons_append, if_true, if_false, if_pos, exists_eq_left', exists_eq_left, exists_and_left, Option.some.injEq, exists_const, ite_true, ite_false, reduceIte, tyD, List.length_cons, List.length_nil, Nat.reduceAdd, Nat.reduceLeDiff, Nat.reduceLT, Int.cast_ofNat_Int, eq_self, Int.reduceEq, Int.reduceLT, Int.reduceLE, sgn_in c (hx.sg c hc)]
  exact hP
theorem law_is_step : ∀ ds S G, c_is_step ds S G → fb_is_step (enOf G) (startS N_is_step ds S) := by
  rintro ds S G ⟨m, rfl, ⟨h1, h2⟩, h⟩
  show fb_is_step (enOf G) ⟨[.val (dSt m)], S⟩
  unfold fb_is_step
  simp only [V0, V1, V2, V3, V4, V5, V6, V7, V8, V9, V10, V11, V12, V13, V14, V15, V16, V17, V18, V19, V20, V21, V22, V23, V24, V25, V26, V27, V28, V29, V30, V31, enOf, wipeS, unwS, List.getElem?_cons_zero, List.getElem?_cons_succ, List.set_cons_zero, List.set_cons_succ, List.append_nil, List.nil_append, List.cons_append, if_true, if_false, if_pos, exists_eq_left', exists_eq_left, exists_and_left, Option.some.injEq, exists_const, ite_true, ite_false, reduceIte, tyD, List.length_cons, List.length_nil, Nat.reduceAdd, Nat.reduceLeDiff, Nat.reduceLT, Int.cast_ofNat_Int, eq_self, Int.reduceEq, Int.reduceLT, Int.reduceLE]
  refine ⟨_, rfl, h1, ?_⟩
  simp only [V0, V1, V2, V3, V4, V5, V6, V7, V8, V9, V10, V11, V12, V13, V14, V15, V16, V17, V18, V19, V20, V21, V22, V23, V24, V25, V26, V27, V28, V29, V30, V31, enOf, wipeS, unwS, List.getElem?_cons_zero, List.getElem?_cons_succ, List.set_cons_zero, List.set_cons_succ, List.append_nil, List.nil_append, List.cons_append, if_true, if_false, if_pos, exists_eq_left', exists_eq_left, exists_and_left, Option.some.injEq, exists_const, ite_true, ite_false, reduceIte, tyD, List.length_cons, List.length_nil, Nat.reduceAdd, Nat.reduceLeDiff, Nat.reduceLT, Int.cast_ofNat_Int, eq_self, Int.reduceEq, Int.reduceLT, Int.reduceLE]
  refine ⟨_, rfl, h2, ?_⟩
  simp only [V0, V1, V2, V3, V4, V5, V6, V7, V8, V9, V10, V11, V12, V13, V14, V15, V16, V17, V18, V19, V20, V21, V22, V23, V24, V25, V26, V27, V28, V29, V30, V31, enOf, wipeS, unwS, List.getElem?_cons_zero, List.getElem?_cons_succ, List.set_cons_zero, List.set_cons_succ, List.append_nil, List.nil_append, List.cons_append, if_true, if_false, if_pos, exists_eq_left', exists_eq_left, exists_and_left, Option.some.injEq, exists_const, ite_true, ite_false, reduceIte, tyD, List.length_cons, List.length_nil, Nat.reduceAdd, Nat.reduceLeDiff, Nat.reduceLT, Int.cast_ofNat_Int, eq_self, Int.reduceEq, Int.reduceLT, Int.reduceLE]
  exact h
theorem law_check_script : ∀ ds S G, c_check_script ds S G → fb_check_script (enOf G) (startS N_check_script ds S) := by
  rintro ds S G ⟨l, rfl, hl, hx, h⟩
  show fb_check_script (enOf G) ⟨[.val (dM l), .no], S⟩
  unfold fb_check_script
  simp only [V0, V1, V2, V3, V4, V5, V6, V7, V8, V9, V10, V11, V12, V13, V14, V15, V16, V17, V18, V19, V20, V21, V22, V23, V24, V25, V26, V27, V28, V29, V30, V31, enOf, wipeS, unwS, List.getElem?_cons_zero, List.getElem?_cons_succ, List.set_cons_zero, List.set_cons_succ, List.append_nil, List.nil_append, List.cons_append, if_true, if_false, if_pos, exists_eq_left', exists_eq_left, exists_and_left, Option.some.injEq, exists_const, ite_true, ite_false, reduceIte, tyD, List.length_cons, List.length_nil, Nat.reduceAdd, Nat.reduceLeDiff, Nat.reduceLT, Int.cast_ofNat_Int, eq_self, Int.reduceEq, Int.reduceLT, Int.reduceLE]
  refine comp_0 dSt rfl (by rw [szl]; omega) (fun x hm P hP => ?_) ?_
  · simp only [V0, V1, V2, V3, V4, V5, V6, V7, V8, V9, V10, V11, V12, V13, V14, V15, V16, V17, V18, V19, V20, V21, V22, V23, V24, V25, V26, V27, V28, V29, V30, V31, enOf, wipeS, unwS, List.getElem?_cons_zero, List.getElem?_cons_succ, List.set_cons_zero, List.set_cons_succ, List.append_nil, List.nil_append, List.cons_append, if_true, if_false, if_pos, exists_eq_left', exists_eq_left, exists_and_left, Option.some.injEq, exists_const, ite_true, ite_false, reduceIte, tyD, List.length_cons, List.length_nil, Nat.reduceAdd, Nat.reduceLeDiff, Nat.reduceLT, Int.cast_ofNat_Int, eq_self, Int.reduceEq, Int.reduceLT, Int.reduceLE]
    refine ⟨x, rfl, hx x hm, ?_⟩
    simp only [V0, V1, V2, V3, V4, V5, V6, V7, V8, V9, V10, V11, V12, V13, V14, V15, V16, V17, V18, V19, V20, V21, V22, V23, V24, V25, V26, V27, V28, V29, V30, V31, enOf, wipeS, unwS, List.getElem?_cons_zero, List.getElem?_cons_succ, List.set_cons_zero, List.set_cons_succ, List.append_nil, List.nil_append, List.cons_append, if_true, if_false, if_pos, exists_eq_left', exists_eq_left, exists_and_left, Option.some.injEq, exists_const, ite_true, ite_false, reduceIte, tyD, List.length_cons, List.length_nil, Nat.reduceAdd, Nat.reduceLeDiff, Nat.reduceLT, Int.cast_ofNat_Int, eq_self, Int.reduceEq, Int.reduceLT, Int.reduceLE]
    exact hP
  · simp only [V0, V1, V2, V3, V4, V5, V6, V7, V8, V9, V10, V11, V12, V13, V14, V15, V16, V17, V18, V19, V20, V21, V22, V23, V24, V25, V26, V27, V28, V29, V30, V31, enOf, wipeS, unwS, List.getElem?_cons_zero, List.getElem?_cons_succ, List.set_cons_zero, List.set_cons_succ, List.append_nil, List.nil_append, List.cons_append, if_true, if_false, if_pos, exists_eq_left', exists_eq_left, exists_and_left, Option.some.injEq, exists_const, ite_true, ite_false, reduceIte, tyD, List.length_cons, List.length_nil, Nat.reduceAdd, Nat.reduceLeDiff, Nat.reduceLT, Int.cast_ofNat_Int, eq_self, Int.reduceEq, Int.reduceLT, Int.reduceLE]
    exact ⟨cmp_ly (n := 1) (m := 1) ly_nil ly_nil, h⟩
theorem law_image_of : ∀ ds S G, c_image_of ds S G → fb_image_of (enOf G) (startS N_image_of ds S) := by
  rintro ds S G ⟨ms, x, rfl, h⟩
  show fb_image_of (enOf G) ⟨[.val (dM ms), .val (.str x), .no, .no], S⟩
  unfold fb_image_of
  refine seq_i fun N hN => ?_
  simp only [V0, V1, V2, V3, V4, V5, V6, V7, V8, V9, V10, V11, V12, V13, V14, V15, V16, V17, V18, V19, V20, V21, V22, V23, V24, V25, V26, V27, V28, V29, V30, V31, enOf, wipeS, unwS, List.getElem?_cons_zero, List.getElem?_cons_succ, List.set_cons_zero, List.set_cons_succ, List.append_nil, List.nil_append, List.cons_append, if_true, if_false, if_pos, exists_eq_left', exists_eq_left, exists_and_left, Option.some.injEq, exists_const, ite_true, ite_false, reduceIte, tyD, List.length_cons, List.length_nil, Nat.reduceAdd, Nat.reduceLeDiff, Nat.reduceLT, Int.cast_ofNat_Int, eq_self, Int.reduceEq, Int.reduceLT, Int.reduceLE]
  refine loop_s dSt (fun (y : Str) s => ∃ p q, s = ⟨[.val (dM ms), .val (.str y), p, q], S⟩) (fun y m => if y = m.1 then m.2 else y) ⟨_, _, rfl⟩ ?_ ?_
  · rintro m hm y s ⟨p, q, rfl⟩ P hP
    simp only [V0, V1, V2, V3, V4, V5, V6, V7, V8, V9, V10, V11, V12, V13, V14, V15, V16, V17, V18, V19, V20, V21, V22, V23, V24, V25, V26, V27, V28, V29, V30, V31, enOf, wipeS, unwS, List.getElem?_cons_zero, List.getElem?_cons_succ, List.set_cons_zero, List.set_cons_succ, List.append_nil, List.nil_append, List.cons_append, if_true, if_false, if_pos, exists_eq_left', exists_eq_left, exists_and_left, Option.some.injEq, exists_const, ite_true, ite_false, reduceIte, tyD, List.length_cons, List.length_nil, Nat.reduceAdd, Nat.reduceLeDiff, Nat.reduceLT, Int.cast_ofNat_Int, eq_self, Int.reduceEq, Int.reduceLT, Int.reduceLE]
    by_cases e : y = m.1 <;> simp only [V0, V1, V2, V3, V4, V5, V6, V7, V8, V9, V10, V11, V12, V13, V14, V15, V16, V17, V18, V19, V20, V21, V22, V23, V24, V25, V26, V27, V28, V29, V30, V31, enOf, wipeS, unwS, List.getElem?_cons_zero, List.getElem?_cons_succ, List.set_cons_zero, List.set_cons_succ, List.append_nil, List.nil_append, List.cons_append, if_true, if_false, if_pos, exists_eq_left', exists_eq_left, exists_and_left, Option.some.injEq, exists_const, ite_true, ite_false, reduceIte, tyD, List.length_cons, List.length_nil, Nat.reduceAdd, Nat.reduceLeDiff, Nat.reduceLT, Int.cast_ofNat_Int, eq_self, Int.reduceEq, Int.reduceLT, Int.reduceLE, e] at hP ⊢ <;> exact hP _ ⟨_, _, rfl⟩
  · rintro s ⟨p, q, rfl⟩
    refine hN _ ?_
    simp only [V0, V1, V2, V3, V4, V5, V6, V7, V8, V9, V10, V11, V12, V13, V14, V15, V16, V17, V18, V19, V20, V21, V22, V23, V24, V25, V26, V27, V28, V29, V30, V31, enOf, wipeS, unwS, List.getElem?_cons_zero, List.getElem?_cons_succ, List.set_cons_zero, List.set_cons_succ, List.append_nil, List.nil_append, List.cons_append, if_true, if_false, if_pos, exists_eq_left', exists_eq_left, exists_and_left, Option.some.injEq, exists_const, ite_true, ite_false, reduceIte, tyD, List.length_cons, List.length_nil, Nat.reduceAdd, Nat.reduceLeDiff, Nat.reduceLT, Int.cast_ofNat_Int, eq_self, Int.reduceEq, Int.reduceLT, Int.reduceLE]
    exact h
theorem law_named : ∀ ds S G, c_named ds S G → fb_named (enOf G) (startS N_named ds S) := by
  rintro ds S G ⟨ms, rfl, hl, h⟩
  show fb_named (enOf G) ⟨[.val (dM ms), .no, .no], S⟩
  unfold fb_named
  simp only [V0, V1, V2, V3, V4, V5, V6, V7, V8, V9, V10, V11, V12, V13, V14, V15, V16, V17, V18, V19, V20, V21, V22, V23, V24, V25, V26, V27, V28, V29, V30, V31, enOf, wipeS, unwS, List.getElem?_cons_zero, List.getElem?_cons_succ, List.set_cons_zero, List.set_cons_succ, List.append_nil, List.nil_append, List.cons_append, if_true, if_false, if_pos, exists_eq_left', exists_eq_left, exists_and_left, Option.some.injEq, exists_const, ite_true, ite_false, reduceIte, tyD, List.length_cons, List.length_nil, Nat.reduceAdd, Nat.reduceLeDiff, Nat.reduceLT, Int.cast_ofNat_Int, eq_self, Int.reduceEq, Int.reduceLT, Int.reduceLE]
  have key : ∀ pre : List Stp, pre.foldl (fun acc m => putD (putD acc (.inr m.1) (.bl true)) (.inr m.2) (.bl true)) [] = kF (fun _ => .bl true) (nmL pre) := fun pre => by
    have := fold_kF (f := fun _ => D.bl true) (pre.flatMap fun m => [m.1, m.2]) []
    rw [List.foldl_flatMap] at this
    exact this
  refine compD2_t (pre := []) dSt (fun acc m => putD (putD acc (.inr m.1) (.bl true)) (.inr m.2) (.bl true)) rfl ?_ ?_
  · rintro pre m ⟨r, e⟩ P hP
    have hp : pre.length < ms.length := by
      have := congrArg List.length e
      simp only [List.nil_append, List.length_append, List.length_cons] at this
      omega
    have h2 := len_nmL pre
    rw [key] at hP ⊢
    have l1 : (kF (fun _ => D.bl true) (nmL pre)).length < 16777216 := by rw [len_kF]; omega
    have l2 : (putD (kF (fun _ => D.bl true) (nmL pre)) (.inr m.1) (.bl true)).length < 16777216 := by
      rw [putD_kF (f := fun _ => D.bl true), len_kF]
      have := len_uqL [m.1] (nmL pre)
      simp only [List.foldl_cons, List.foldl_nil, List.length_cons, List.length_nil] at this
      omega
    simp only [V0, V1, V2, V3, V4, V5, V6, V7, V8, V9, V10, V11, V12, V13, V14, V15, V16, V17, V18, V19, V20, V21, V22, V23, V24, V25, V26, V27, V28, V29, V30, V31, enOf, wipeS, unwS, List.getElem?_cons_zero, List.getElem?_cons_succ, List.set_cons_zero, List.set_cons_succ, List.append_nil, List.nil_append, List.cons_append, if_true, if_false, if_pos, exists_eq_left', exists_eq_left, exists_and_left, Option.some.injEq, exists_const, ite_true, ite_false, reduceIte, tyD, List.length_cons, List.length_nil, Nat.reduceAdd, Nat.reduceLeDiff, Nat.reduceLT, Int.cast_ofNat_Int, eq_self, Int.reduceEq, Int.reduceLT, Int.reduceLE, u_loop0, u_loop1, u_comp0, u_comp1, u_compD0, u_compD1]
    exact ⟨l1, l2, hP⟩
  · simp only [V0, V1, V2, V3, V4, V5, V6, V7, V8, V9, V10, V11, V12, V13, V14, V15, V16, V17, V18, V19, V20, V21, V22, V23, V24, V25, V26, V27, V28, V29, V30, V31, enOf, wipeS, unwS, List.getElem?_cons_zero, List.getElem?_cons_succ, List.set_cons_zero, List.set_cons_succ, List.append_nil, List.nil_append, List.cons_append, if_true, if_false, if_pos, exists_eq_left', exists_eq_left, exists_and_left, Option.some.injEq, exists_const, ite_true, ite_false, reduceIte, tyD, List.length_cons, List.length_nil, Nat.reduceAdd, Nat.reduceLeDiff, Nat.reduceLT, Int.cast_ofNat_Int, eq_self, Int.reduceEq, Int.reduceLT, Int.reduceLE]
    rw [key, keys_kF]
    refine ⟨srtOk_strs _, ?_⟩
    rw [srtD_strs]
    exact h
theorem law_sources : ∀ ds S G, c_sources ds S G → fb_sources (enOf G) (startS N_sources ds S) := by
  rintro ds S G ⟨ms, x, rfl, hm, h⟩
  show fb_sources (enOf G) ⟨[.val (dM ms), .val (.str x), .no, .no], S⟩
  unfold fb_sources
  have hn := len_nmF ms
  refine seq_i fun N1 hN1 => ?_
  simp only [V0, V1, V2, V3, V4, V5, V6, V7, V8, V9, V10, V11, V12, V13, V14, V15, V16, V17, V18, V19, V20, V21, V22, V23, V24, V25, V26, V27, V28, V29, V30, V31, enOf, wipeS, unwS, List.getElem?_cons_zero, List.getElem?_cons_succ, List.set_cons_zero, List.set_cons_succ, List.append_nil, List.nil_append, List.cons_append, if_true, if_false, if_pos, exists_eq_left', exists_eq_left, exists_and_left, Option.some.injEq, exists_const, ite_true, ite_false, reduceIte, tyD, List.length_cons, List.length_nil, Nat.reduceAdd, Nat.reduceLeDiff, Nat.reduceLT, Int.cast_ofNat_Int, eq_self, Int.reduceEq, Int.reduceLT, Int.reduceLE]
  refine ⟨ms, rfl, by omega, ?_⟩
  simp only [V0, V1, V2, V3, V4, V5, V6, V7, V8, V9, V10, V11, V12, V13, V14, V15, V16, V17, V18, V19, V20, V21, V22, V23, V24, V25, V26, V27, V28, V29, V30, V31, enOf, wipeS, unwS, List.getElem?_cons_zero, List.getElem?_cons_succ, List.set_cons_zero, List.set_cons_succ, List.append_nil, List.nil_append, List.cons_append, if_true, if_false, if_pos, exists_eq_left', exists_eq_left, exists_and_left, Option.some.injEq, exists_const, ite_true, ite_false, reduceIte, tyD, List.length_cons, List.length_nil, Nat.reduceAdd, Nat.reduceLeDiff, Nat.reduceLT, Int.cast_ofNat_Int, eq_self, Int.reduceEq, Int.reduceLT, Int.reduceLE, List.length_map]
  refine ⟨by omega, ?_⟩
  refine comp_kF D.str (as := nmF ms ++ [x]) (by rw [List.map_append]; rfl) (fun x => x) (fun _ => .bl true) (by rw [szl, List.length_append, List.length_singleton]; omega) (fun x hx P hP => ?_) ?_
  · simp only [V0, V1, V2, V3, V4, V5, V6, V7, V8, V9, V10, V11, V12, V13, V14, V15, V16, V17, V18, V19, V20, V21, V22, V23, V24, V25, V26, V27, V28, V29, V30, V31, enOf, wipeS, unwS, List.getElem?_cons_zero, List.getElem?_cons_succ, List.set_cons_zero, List.set_cons_succ, List.append_nil, List.nil_append, List.cons_append, if_true, if_false, if_pos, exists_eq_left', exists_eq_left, exists_and_left, Option.some.injEq, exists_const, ite_true, ite_false, reduceIte, tyD, List.length_cons, List.length_nil, Nat.reduceAdd, Nat.reduceLeDiff, Nat.reduceLT, Int.cast_ofNat_Int, eq_self, Int.reduceEq, Int.reduceLT, Int.reduceLE]
    exact hP
  · simp only [V0, V1, V2, V3, V4, V5, V6, V7, V8, V9, V10, V11, V12, V13, V14, V15, V16, V17, V18, V19, V20, V21, V22, V23, V24, V25, V26, V27, V28, V29, V30, V31, enOf, wipeS, unwS, List.getElem?_cons_zero, List.getElem?_cons_succ, List.set_cons_zero, List.set_cons_succ, List.append_nil, List.nil_append, List.cons_append, if_true, if_false, if_pos, exists_eq_left', exists_eq_left, exists_and_left, Option.some.injEq, exists_const, ite_true, ite_false, reduceIte, tyD, List.length_cons, List.length_nil, Nat.reduceAdd, Nat.reduceLeDiff, Nat.reduceLT, Int.cast_ofNat_Int, eq_self, Int.reduceEq, Int.reduceLT, Int.reduceLE, List.map_id']
    rw [keys_kF]
    refine ⟨srtOk_strs _, hN1 _ ?_⟩
    rw [srtD_strs]
    have hs := len_soL ms x
    simp only [V0, V1, V2, V3, V4, V5, V6, V7, V8, V9, V10, V11, V12, V13, V14, V15, V16, V17, V18, V19, V20, V21, V22, V23, V24, V25, V26, V27, V28, V29, V30, V31, enOf, wipeS, unwS, List.getElem?_cons_zero, List.getElem?_cons_succ, List.set_cons_zero, List.set_cons_succ, List.append_nil, List.nil_append, List.cons_append, if_true, if_false, if_pos, exists_eq_left', exists_eq_left, exists_and_left, Option.some.injEq, exists_const, ite_true, ite_false, reduceIte, tyD, List.length_cons, List.length_nil, Nat.reduceAdd, Nat.reduceLeDiff, Nat.reduceLT, Int.cast_ofNat_Int, eq_self, Int.reduceEq, Int.reduceLT, Int.reduceLE]
    refine comp_f D.str (as := soL ms x) rfl (fun y => decide (imgF ms y = x)) (fun y => y) D.str (by rw [szl]; omega) (fun y hy P h1 h0 => ?_) ?_
    · simp only [V0, V1, V2, V3, V4, V5, V6, V7, V8, V9, V10, V11, V12, V13, V14, V15, V16, V17, V18, V19, V20, V21, V22, V23, V24, V25, V26, V27, V28, V29, V30, V31, enOf, wipeS, unwS, List.getElem?_cons_zero, List.getElem?_cons_succ, List.set_cons_zero, List.set_cons_succ, List.append_nil, List.nil_append, List.cons_append, if_true, if_false, if_pos, exists_eq_left', exists_eq_left, exists_and_left, Option.some.injEq, exists_const, ite_true, ite_false, reduceIte, tyD, List.length_cons, List.length_nil, Nat.reduceAdd, Nat.reduceLeDiff, Nat.reduceLT, Int.cast_ofNat_Int, eq_self, Int.reduceEq, Int.reduceLT, Int.reduceLE]
      refine ⟨ms, y, rfl, ?_⟩
      by_cases e : imgF ms y = x
      · have := h1 (by simp [e])
        simp only [V0, V1, V2, V3, V4, V5, V6, V7, V8, V9, V10, V11, V12, V13, V14, V15, V16, V17, V18, V19, V20, V21, V22, V23, V24, V25, V26, V27, V28, V29, V30, V31, enOf, wipeS, unwS, List.getElem?_cons_zero, List.getElem?_cons_succ, List.set_cons_zero, List.set_cons_succ, List.append_nil, List.nil_append, List.cons_append, if_true, if_false, if_pos, exists_eq_left', exists_eq_left, exists_and_left, Option.some.injEq, exists_const, ite_true, ite_false, reduceIte, tyD, List.length_cons, List.length_nil, Nat.reduceAdd, Nat.reduceLeDiff, Nat.reduceLT, Int.cast_ofNat_Int, eq_self, Int.reduceEq, Int.reduceLT, Int.reduceLE, e] at this ⊢
        exact this
      · have := h0 (by simp [e])
        simp only [V0, V1, V2, V3, V4, V5, V6, V7, V8, V9, V10, V11, V12, V13, V14, V15, V16, V17, V18, V19, V20, V21, V22, V23, V24, V25, V26, V27, V28, V29, V30, V31, enOf, wipeS, unwS, List.getElem?_cons_zero, List.getElem?_cons_succ, List.set_cons_zero, List.set_cons_succ, List.append_nil, List.nil_append, List.cons_append, if_true, if_false, if_pos, exists_eq_left', exists_eq_left, exists_and_left, Option.some.injEq, exists_const, ite_true, ite_false, reduceIte, tyD, List.length_cons, List.length_nil, Nat.reduceAdd, Nat.reduceLeDiff, Nat.reduceLT, Int.cast_ofNat_Int, eq_self, Int.reduceEq, Int.reduceLT, Int.reduceLE, e] at this ⊢
        exact this
    · simp only [V0, V1, V2, V3, V4, V5, V6, V7, V8, V9, V10, V11, V12, V13, V14, V15, V16, V17, V18, V19, V20, V21, V22, V23, V24, V25, V26, V27, V28, V29, V30, V31, enOf, wipeS, unwS, List.getElem?_cons_zero, List.getElem?_cons_succ, List.set_cons_zero, List.set_cons_succ, List.append_nil, List.nil_append, List.cons_append, if_true, if_false, if_pos, exists_eq_left', exists_eq_left, exists_and_left, Option.some.injEq, exists_const, ite_true, ite_false, reduceIte, tyD, List.length_cons, List.length_nil, Nat.reduceAdd, Nat.reduceLeDiff, Nat.reduceLT, Int.cast_ofNat_Int, eq_self, Int.reduceEq, Int.reduceLT, Int.reduceLE, List.map_id']
      exact h
theorem law_lost : ∀ ds S G, c_lost ds S G → fb_lost (enOf G) (startS N_lost ds S) := by
  rintro ds S G ⟨ms, rfl, hm, hs, h⟩
  show fb_lost (enOf G) ⟨[.val (dM ms), .no], S⟩
  unfold fb_lost
  have hn := len_nmF ms
  simp only [V0, V1, V2, V3, V4, V5, V6, V7, V8, V9, V10, V11, V12, V13, V14, V15, V16, V17, V18, V19, V20, V21, V22, V23, V24, V25, V26, V27, V28, V29, V30, V31, enOf, wipeS, unwS, List.getElem?_cons_zero, List.getElem?_cons_succ, List.set_cons_zero, List.set_cons_succ, List.append_nil, List.nil_append, List.cons_append, if_true, if_false, if_pos, exists_eq_left', exists_eq_left, exists_and_left, Option.some.injEq, exists_const, ite_true, ite_false, reduceIte, tyD, List.length_cons, List.length_nil, Nat.reduceAdd, Nat.reduceLeDiff, Nat.reduceLT, Int.cast_ofNat_Int, eq_self, Int.reduceEq, Int.reduceLT, Int.reduceLE]
  refine ⟨ms, rfl, hm, hs, ms, rfl, by omega, ?_⟩
  simp only [V0, V1, V2, V3, V4, V5, V6, V7, V8, V9, V10, V11, V12, V13, V14, V15, V16, V17, V18, V19, V20, V21, V22, V23, V24, V25, V26, V27, V28, V29, V30, V31, enOf, wipeS, unwS, List.getElem?_cons_zero, List.getElem?_cons_succ, List.set_cons_zero, List.set_cons_succ, List.append_nil, List.nil_append, List.cons_append, if_true, if_false, if_pos, exists_eq_left', exists_eq_left, exists_and_left, Option.some.injEq, exists_const, ite_true, ite_false, reduceIte, tyD, List.length_cons, List.length_nil, Nat.reduceAdd, Nat.reduceLeDiff, Nat.reduceLT, Int.cast_ofNat_Int, eq_self, Int.reduceEq, Int.reduceLT, Int.reduceLE]
  refine comp_f D.str rfl (fun x => decide (soF ms x = [])) (fun y => y) D.str (by rw [szl]; omega) (fun x hx P h1 h0 => ?_) ?_
  · simp only [V0, V1, V2, V3, V4, V5, V6, V7, V8, V9, V10, V11, V12, V13, V14, V15, V16, V17, V18, V19, V20, V21, V22, V23, V24, V25, V26, V27, V28, V29, V30, V31, enOf, wipeS, unwS, List.getElem?_cons_zero, List.getElem?_cons_succ, List.set_cons_zero, List.set_cons_succ, List.append_nil, List.nil_append, List.cons_append, if_true, if_false, if_pos, exists_eq_left', exists_eq_left, exists_and_left, Option.some.injEq, exists_const, ite_true, ite_false, reduceIte, tyD, List.length_cons, List.length_nil, Nat.reduceAdd, Nat.reduceLeDiff, Nat.reduceLT, Int.cast_ofNat_Int, eq_self, Int.reduceEq, Int.reduceLT, Int.reduceLE]
    refine ⟨ms, x, rfl, hm, ?_⟩
    simp only [V0, V1, V2, V3, V4, V5, V6, V7, V8, V9, V10, V11, V12, V13, V14, V15, V16, V17, V18, V19, V20, V21, V22, V23, V24, V25, V26, V27, V28, V29, V30, V31, enOf, wipeS, unwS, List.getElem?_cons_zero, List.getElem?_cons_succ, List.set_cons_zero, List.set_cons_succ, List.append_nil, List.nil_append, List.cons_append, if_true, if_false, if_pos, exists_eq_left', exists_eq_left, exists_and_left, Option.some.injEq, exists_const, ite_true, ite_false, reduceIte, tyD, List.length_cons, List.length_nil, Nat.reduceAdd, Nat.reduceLeDiff, Nat.reduceLT, Int.cast_ofNat_Int, eq_self, Int.reduceEq, Int.reduceLT, Int.reduceLE]
    refine ⟨cmp_ly (ly_dS (n := 0) (soF_lab hs (nmF_lab hs x hx))) (ly_nil (n := 0)), ?_⟩
    have e0 : eqD (.lst ((soF ms x).map D.str)) (.lst []) = decide (soF ms x = []) := eqE_dS _ []
    by_cases e : soF ms x = []
    · have := h1 (by simp [e])
      simp only [V0, V1, V2, V3, V4, V5, V6, V7, V8, V9, V10, V11, V12, V13, V14, V15, V16, V17, V18, V19, V20, V21, V22, V23, V24, V25, V26, V27, V28, V29, V30, V31, enOf, wipeS, unwS, List.getElem?_cons_zero, List.getElem?_cons_succ, List.set_cons_zero, List.set_cons_succ, List.append_nil, List.nil_append, List.cons_append, if_true, if_false, if_pos, exists_eq_left', exists_eq_left, exists_and_left, Option.some.injEq, exists_const, ite_true, ite_false, reduceIte, tyD, List.length_cons, List.length_nil, Nat.reduceAdd, Nat.reduceLeDiff, Nat.reduceLT, Int.cast_ofNat_Int, eq_self, Int.reduceEq, Int.reduceLT, Int.reduceLE, e0, e] at this ⊢
      exact this
    · have := h0 (by simp [e])
      simp only [V0, V1, V2, V3, V4, V5, V6, V7, V8, V9, V10, V11, V12, V13, V14, V15, V16, V17, V18, V19, V20, V21, V22, V23, V24, V25, V26, V27, V28, V29, V30, V31, enOf, wipeS, unwS, List.getElem?_cons_zero, List.getElem?_cons_succ, List.set_cons_zero, List.set_cons_succ, List.append_nil, List.nil_append, List.cons_append, if_true, if_false, if_pos, exists_eq_left', exists_eq_left, exists_and_left, Option.some.injEq, exists_const, ite_true, ite_false, reduceIte, tyD, List.length_cons, List.length_nil, Nat.reduceAdd, Nat.reduceLeDiff, Nat.reduceLT, Int.cast_ofNat_Int, eq_self, Int.reduceEq, Int.reduceLT, Int.reduceLE, e0, e] at this ⊢
      exact this
  · simp only [V0, V1, V2, V3, V4, V5, V6, V7, V8, V9, V10, V11, V12, V13, V14, V15, V16, V17, V18, V19, V20, V21, V22, V23, V24, V25, V26, V27, V28, V29, V30, V31, enOf, wipeS, unwS, List.getElem?_cons_zero, List.getElem?_cons_succ, List.set_cons_zero, List.set_cons_succ, List.append_nil, List.nil_append, List.cons_append, if_true, if_false, if_pos, exists_eq_left', exists_eq_left, exists_and_left, Option.some.injEq, exists_const, ite_true, ite_false, reduceIte, tyD, List.length_cons, List.length_nil, Nat.reduceAdd, Nat.reduceLeDiff, Nat.reduceLT, Int.cast_ofNat_Int, eq_self, Int.reduceEq, Int.reduceLT, Int.reduceLE, List.map_id']
    exact h
theorem law__law_purse : ∀ ds S G, c__law_purse ds S G → fb__law_purse (enOf G) (startS N__law_purse ds S) := by
  rintro ds S G ⟨ns, i, rfl, hl, hi, h⟩
  show fb__law_purse (enOf G) ⟨[.val (.lst (ns.map D.int)), .val (.int i), .no], S⟩
  unfold fb__law_purse
  simp only [V0, V1, V2, V3, V4, V5, V6, V7, V8, V9, V10, V11, V12, V13, V14, V15, V16, V17, V18, V19, V20, V21, V22, V23, V24, V25, V26, V27, V28, V29, V30, V31, enOf, wipeS, unwS, List.getElem?_cons_zero, List.getElem?_cons_succ, List.set_cons_zero, List.set_cons_succ, List.append_nil, List.nil_append, List.cons_append, if_true, if_false, if_pos, exists_eq_left', exists_eq_left, exists_and_left, Option.some.injEq, exists_const, ite_true, ite_false, reduceIte, tyD, List.length_cons, List.length_nil, Nat.reduceAdd, Nat.reduceLeDiff, Nat.reduceLT, Int.cast_ofNat_Int, eq_self, Int.reduceEq, Int.reduceLT, Int.reduceLE]
  rw [cut_map]
  refine ⟨_, ints_map _, by decide +kernel, by decide +kernel, by decide +kernel, by decide +kernel, mulok (.inl (by decide)), h _ ⟨_, _, _, rfl, Int.emod_nonneg _ (by decide +kernel), ?_, Int.emod_nonneg _ (by decide), Int.lt_trans (Int.emod_lt_of_pos _ (by decide)) (by decide), by omega, by omega⟩⟩
  exact Int.lt_of_lt_of_le (Int.emod_lt_of_pos _ (by decide +kernel)) (by decide +kernel)
theorem law__law_mixed : ∀ ds S G, c__law_mixed ds S G → fb__law_mixed (enOf G) (startS N__law_mixed ds S) := by
  rintro ds S G ⟨a, z, rfl, h1, h2, h3, h4, h⟩
  show fb__law_mixed (enOf G) ⟨[.val (.int a), .val (.int z), .no], S⟩
  unfold fb__law_mixed
  simp only [V0, V1, V2, V3, V4, V5, V6, V7, V8, V9, V10, V11, V12, V13, V14, V15, V16, V17, V18, V19, V20, V21, V22, V23, V24, V25, V26, V27, V28, V29, V30, V31, enOf, wipeS, unwS, List.getElem?_cons_zero, List.getElem?_cons_succ, List.set_cons_zero, List.set_cons_succ, List.append_nil, List.nil_append, List.cons_append, if_true, if_false, if_pos, exists_eq_left', exists_eq_left, exists_and_left, Option.some.injEq, exists_const, ite_true, ite_false, reduceIte, tyD, List.length_cons, List.length_nil, Nat.reduceAdd, Nat.reduceLeDiff, Nat.reduceLT, Int.cast_ofNat_Int, eq_self, Int.reduceEq, Int.reduceLT, Int.reduceLE]
  have g1 : 0 ≤ (a * 69069 + 104729 * z * z + z) % 2147483647 := Int.emod_nonneg _ (by decide)
  have g2 : (a * 69069 + 104729 * z * z + z) % 2147483647 < 2147483647 := Int.emod_lt_of_pos _ (by decide)
  refine ⟨mulok (.inr (by decide)), mulok (.inl (by decide)), mulok (.inr (by omega)), mulok (.inr (by omega)), mulok (.inr (by decide)), h _ (Int.emod_nonneg _ (by decide)) ?_⟩
  exact Int.lt_trans (Int.emod_lt_of_pos _ (by decide)) (by decide)
theorem law__law_draw : ∀ ds S G, c__law_draw ds S G → fb__law_draw (enOf G) (startS N__law_draw ds S) := by
  rintro ds S G ⟨n, m, k, rfl, ⟨c, hc, ⟨a, b, z, rfl, p1, p2, p3, p4, p5, p6⟩⟩, hk, h1, h2, h⟩
  have hn : n < S.length := (List.getElem?_eq_some_iff.mp hc).1
  have hs : ∀ c : C, (S.set n c)[n]? = some c := fun c => List.getElem?_set_self hn
  have hg : ∀ (r : Int) (S' : List C), 0 ≤ r → r < m → Fr n S S' → Has S' n (k + 3) → G (.val (.int r)) S' := fun r S' r0 r1 f s => by
    obtain ⟨r', rfl⟩ := Int.eq_ofNat_of_zero_le r0
    exact h r' S' r1 f s
  show fb__law_draw (enOf G) ⟨[.val (.loc n), .val (.int m), .no, .no, .no], S⟩
  unfold fb__law_draw
  simp only [V0, V1, V2, V3, V4, V5, V6, V7, V8, V9, V10, V11, V12, V13, V14, V15, V16, V17, V18, V19, V20, V21, V22, V23, V24, V25, V26, V27, V28, V29, V30, V31, enOf, wipeS, unwS, List.getElem?_cons_zero, List.getElem?_cons_succ, List.set_cons_zero, List.set_cons_succ, List.append_nil, List.nil_append, List.cons_append, if_true, if_false, if_pos, exists_eq_left', exists_eq_left, exists_and_left, Option.some.injEq, exists_const, ite_true, ite_false, reduceIte, tyD, List.length_cons, List.length_nil, Nat.reduceAdd, Nat.reduceLeDiff, Nat.reduceLT, Int.cast_ofNat_Int, eq_self, Int.reduceEq, Int.reduceLT, Int.reduceLE, hc]
  by_cases q : 0 < a
  · rw [if_pos (decide_eq_true q)]
    refine ⟨h1, divok h1 (by omega), hg _ _ (Int.emod_nonneg _ (by omega)) (Int.emod_lt_of_pos _ h1) Fr.set ⟨_, hs _, ⟨_, _, _, rfl, Int.ediv_nonneg p1 (by omega), ?_, p3, p4, p5, by omega⟩⟩⟩
    exact Int.lt_of_le_of_lt (Int.ediv_le_self _ p1) p2
  · rw [if_neg (by simpa using q)]
    have hb : Builtin.Int.intBits m ≤ 64 := bits_le (by omega)
    refine ⟨divok (by decide) (by decide), ⟨by omega, by omega⟩, ?_⟩
    refine loop_inv (fun j s => ∃ f x, s = ⟨[.val (.loc n), .val (.int m), .val (.int f), x, .no], S.set n (.lst [.int a, .int b, .int (z + j)])⟩) ⟨0, .no, by
      rw [show z + ((0 : Nat) : Int) = z by omega]
      congr 1
      exact (set_self hc).symm⟩ ?_ ?_
    · rintro j s d hd ⟨f, x, rfl⟩ P hP
      have hj : j < 3 := by
        have := (upI_at hd).1
        omega
      simp only [V0, V1, V2, V3, V4, V5, V6, V7, V8, V9, V10, V11, V12, V13, V14, V15, V16, V17, V18, V19, V20, V21, V22, V23, V24, V25, V26, V27, V28, V29, V30, V31, enOf, wipeS, unwS, List.getElem?_cons_zero, List.getElem?_cons_succ, List.set_cons_zero, List.set_cons_succ, List.append_nil, List.nil_append, List.cons_append, if_true, if_false, if_pos, exists_eq_left', exists_eq_left, exists_and_left, Option.some.injEq, exists_const, ite_true, ite_false, reduceIte, tyD, List.length_cons, List.length_nil, Nat.reduceAdd, Nat.reduceLeDiff, Nat.reduceLT, Int.cast_ofNat_Int, eq_self, Int.reduceEq, Int.reduceLT, Int.reduceLE, hs, List.set_set]
      refine ⟨mulok (.inr (by decide)), b, z + j + 1, rfl, p3, p4, by omega, by omega, fun r r1 r2 => ?_⟩
      simp only [V0, V1, V2, V3, V4, V5, V6, V7, V8, V9, V10, V11, V12, V13, V14, V15, V16, V17, V18, V19, V20, V21, V22, V23, V24, V25, V26, V27, V28, V29, V30, V31, enOf, wipeS, unwS, List.getElem?_cons_zero, List.getElem?_cons_succ, List.set_cons_zero, List.set_cons_succ, List.append_nil, List.nil_append, List.cons_append, if_true, if_false, if_pos, exists_eq_left', exists_eq_left, exists_and_left, Option.some.injEq, exists_const, ite_true, ite_false, reduceIte, tyD, List.length_cons, List.length_nil, Nat.reduceAdd, Nat.reduceLeDiff, Nat.reduceLT, Int.cast_ofNat_Int, eq_self, Int.reduceEq, Int.reduceLT, Int.reduceLE]
      exact hP _ ⟨_, _, by rw [show z + ((j + 1 : Nat) : Int) = z + j + 1 by omega]⟩
    · rintro s ⟨f, x, rfl⟩
      simp only [V0, V1, V2, V3, V4, V5, V6, V7, V8, V9, V10, V11, V12, V13, V14, V15, V16, V17, V18, V19, V20, V21, V22, V23, V24, V25, V26, V27, V28, V29, V30, V31, enOf, wipeS, unwS, List.getElem?_cons_zero, List.getElem?_cons_succ, List.set_cons_zero, List.set_cons_succ, List.append_nil, List.nil_append, List.cons_append, if_true, if_false, if_pos, exists_eq_left', exists_eq_left, exists_and_left, Option.some.injEq, exists_const, ite_true, ite_false, reduceIte, tyD, List.length_cons, List.length_nil, Nat.reduceAdd, Nat.reduceLeDiff, Nat.reduceLT, Int.cast_ofNat_Int, eq_self, Int.reduceEq, Int.reduceLT, Int.reduceLE]
      refine ⟨h1, hg _ _ (Int.emod_nonneg _ (by omega)) (Int.emod_lt_of_pos _ h1) Fr.set ⟨_, hs _, ⟨_, _, _, rfl, p1, p2, p3, p4, by omega, ?_⟩⟩⟩
      rw [upI_len]
      omega
theorem law__law_one_of : ∀ ds S G, c__law_one_of ds S G → fb__law_one_of (enOf G) (startS N__law_one_of ds S) := by
  rintro ds S G ⟨n, xs, k, rfl, hp, hk, h0, h1, h⟩
  show fb__law_one_of (enOf G) ⟨[.val (.loc n), .val (.lst xs)], S⟩
  unfold fb__law_one_of
  have hx : 0 < xs.length := List.length_pos_iff.mpr h0
  simp only [V0, V1, V2, V3, V4, V5, V6, V7, V8, V9, V10, V11, V12, V13, V14, V15, V16, V17, V18, V19, V20, V21, V22, V23, V24, V25, V26, V27, V28, V29, V30, V31, enOf, wipeS, unwS, List.getElem?_cons_zero, List.getElem?_cons_succ, List.set_cons_zero, List.set_cons_succ, List.append_nil, List.nil_append, List.cons_append, if_true, if_false, if_pos, exists_eq_left', exists_eq_left, exists_and_left, Option.some.injEq, exists_const, ite_true, ite_false, reduceIte, tyD, List.length_cons, List.length_nil, Nat.reduceAdd, Nat.reduceLeDiff, Nat.reduceLT, Int.cast_ofNat_Int, eq_self, Int.reduceEq, Int.reduceLT, Int.reduceLE]
  refine ⟨n, xs.length, k, rfl, hp, hk, by omega, by omega, fun r S' hr hf hs => ?_⟩
  have hr' : r < xs.length := by omega
  simp only [V0, V1, V2, V3, V4, V5, V6, V7, V8, V9, V10, V11, V12, V13, V14, V15, V16, V17, V18, V19, V20, V21, V22, V23, V24, V25, V26, V27, V28, V29, V30, V31, enOf, wipeS, unwS, List.getElem?_cons_zero, List.getElem?_cons_succ, List.set_cons_zero, List.set_cons_succ, List.append_nil, List.nil_append, List.cons_append, if_true, if_false, if_pos, exists_eq_left', exists_eq_left, exists_and_left, Option.some.injEq, exists_const, ite_true, ite_false, reduceIte, tyD, List.length_cons, List.length_nil, Nat.reduceAdd, Nat.reduceLeDiff, Nat.reduceLT, Int.cast_ofNat_Int, eq_self, Int.reduceEq, Int.reduceLT, Int.reduceLE]
  exact ⟨_, Vl.atI_nat (List.getElem?_eq_getElem hr'), h _ (List.getElem_mem hr') S' hf hs⟩
theorem atI_lab {m r1 : Nat} (hr : r1 < 6) (hm : m < 40) : ∃ t : Nat, 1 ≤ t ∧ t ≤ 40 ∧ L2.atI [D.int 1, D.int 1, D.int 2, D.int 3, D.int (1 + (m : Int)), D.int 40] (r1 : Int) = some (.int t) := by
  match r1, hr with
  | 0, _ => exact ⟨1, by decide, by decide, rfl⟩
  | 1, _ => exact ⟨1, by decide, by decide, rfl⟩
  | 2, _ => exact ⟨2, by decide, by decide, rfl⟩
  | 3, _ => exact ⟨3, by decide, by decide, rfl⟩
  | 4, _ => exact ⟨1 + m, by omega, by omega, Vl.atI_nat (i := 4) (by show some (D.int (1 + (m : Int))) = _; simp)⟩
  | 5, _ => exact ⟨40, by decide, by decide, rfl⟩
def labW : List Str := ["a", "b", "c", "d", "on", "off", "0", "1", "9", "-", "a-", "a2", "spare", "spare-0"]
theorem labW_ok : ∀ z ∈ labW, IsLab z := by decide +kernel
theorem labW_at {x : Str} (hl : IsLab x) {r : Nat} (hr : r < 20) : ∃ z : Str, IsLab z ∧ L2.atI [D.str "a", D.str "b", D.str "c", D.str "d", D.str "on", D.str "off", D.str "0", D.str "1", D.str "9", D.str "-", D.str "a-", D.str "a2", D.str "spare", D.str "spare-0", D.str x, .str x, .str x, .str x, .str x, .str x] (r : Int) = some (.str z) := by
  have hlen : (labW ++ [x, x, x, x, x, x]).length = 20 := rfl
  have hall : ∀ z ∈ labW ++ [x, x, x, x, x, x], IsLab z := by
    intro z hz
    rcases List.mem_append.mp hz with hz | hz
    · exact labW_ok z hz
    · have : z = x := by simpa using hz
      rw [this]; exact hl
  have e : L2.atI ((labW ++ [x, x, x, x, x, x]).map D.str) (r : Int) = some (.str (labW ++ [x, x, x, x, x, x])[r]) := Vl.atI_nat (by rw [List.getElem?_map, List.getElem?_eq_getElem (by rw [hlen]; exact hr)]; rfl)
  exact ⟨_, hall _ (List.getElem_mem _), e⟩
theorem law__law_label : ∀ ds S G, c__law_label ds S G → fb__law_label (enOf G) (startS N__law_label ds S) := by
  rintro ds S G ⟨n, k, rfl, hp, hk, h⟩
  show fb__law_label (enOf G) ⟨[.val (.loc n), .no, .no, .no], S⟩
  unfold fb__law_label
  refine seq_i fun N1 hN1 => ?_
  simp only [V0, V1, V2, V3, V4, V5, V6, V7, V8, V9, V10, V11, V12, V13, V14, V15, V16, V17, V18, V19, V20, V21, V22, V23, V24, V25, V26, V27, V28, V29, V30, V31, enOf, wipeS, unwS, List.getElem?_cons_zero, List.getElem?_cons_succ, List.set_cons_zero, List.set_cons_succ, List.append_nil, List.nil_append, List.cons_append, if_true, if_false, if_pos, exists_eq_left', exists_eq_left, exists_and_left, Option.some.injEq, exists_const, ite_true, ite_false, reduceIte, tyD, List.length_cons, List.length_nil, Nat.reduceAdd, Nat.reduceLeDiff, Nat.reduceLT, Int.cast_ofNat_Int, eq_self, Int.reduceEq, Int.reduceLT, Int.reduceLE]
  refine hN1 _ ?_
  refine seq_i fun N2 hN2 => ?_
  simp only [V0, V1, V2, V3, V4, V5, V6, V7, V8, V9, V10, V11, V12, V13, V14, V15, V16, V17, V18, V19, V20, V21, V22, V23, V24, V25, V26, V27, V28, V29, V30, V31, enOf, wipeS, unwS, List.getElem?_cons_zero, List.getElem?_cons_succ, List.set_cons_zero, List.set_cons_succ, List.append_nil, List.nil_append, List.cons_append, if_true, if_false, if_pos, exists_eq_left', exists_eq_left, exists_and_left, Option.some.injEq, exists_const, ite_true, ite_false, reduceIte, tyD, List.length_cons, List.length_nil, Nat.reduceAdd, Nat.reduceLeDiff, Nat.reduceLT, Int.cast_ofNat_Int, eq_self, Int.reduceEq, Int.reduceLT, Int.reduceLE]
  refine ⟨n, 40, k, rfl, hp, by omega, by decide, by decide, fun r1 S1 hr1 hf1 hs1 => ?_⟩
  simp only [V0, V1, V2, V3, V4, V5, V6, V7, V8, V9, V10, V11, V12, V13, V14, V15, V16, V17, V18, V19, V20, V21, V22, V23, V24, V25, V26, V27, V28, V29, V30, V31, enOf, wipeS, unwS, List.getElem?_cons_zero, List.getElem?_cons_succ, List.set_cons_zero, List.set_cons_succ, List.append_nil, List.nil_append, List.cons_append, if_true, if_false, if_pos, exists_eq_left', exists_eq_left, exists_and_left, Option.some.injEq, exists_const, ite_true, ite_false, reduceIte, tyD, List.length_cons, List.length_nil, Nat.reduceAdd, Nat.reduceLeDiff, Nat.reduceLT, Int.cast_ofNat_Int, eq_self, Int.reduceEq, Int.reduceLT, Int.reduceLE]
  refine ⟨n, 6, k + 3, rfl, hs1, by omega, by decide, by decide, fun r2 S2 hr2 hf2 hs2 => ?_⟩
  obtain ⟨t, ht1, ht2, e⟩ := atI_lab (m := r1) (r1 := r2) (by omega) (by omega)
  simp only [V0, V1, V2, V3, V4, V5, V6, V7, V8, V9, V10, V11, V12, V13, V14, V15, V16, V17, V18, V19, V20, V21, V22, V23, V24, V25, V26, V27, V28, V29, V30, V31, enOf, wipeS, unwS, List.getElem?_cons_zero, List.getElem?_cons_succ, List.set_cons_zero, List.set_cons_succ, List.append_nil, List.nil_append, List.cons_append, if_true, if_false, if_pos, exists_eq_left', exists_eq_left, exists_and_left, Option.some.injEq, exists_const, ite_true, ite_false, reduceIte, tyD, List.length_cons, List.length_nil, Nat.reduceAdd, Nat.reduceLeDiff, Nat.reduceLT, Int.cast_ofNat_Int, eq_self, Int.reduceEq, Int.reduceLT, Int.reduceLE, e]
  refine ⟨small62_of (by omega) (by omega), ?_⟩
  rw [upI0, Int.toNat_natCast]
  refine loop_r _ (fun i s => ∃ (x : Str) (S3 : List C) (a : SV), x.length = i ∧ (∀ c ∈ x.cps.toList, c ∈ sgn) ∧ Fr n S S3 ∧ Has S3 n (k + 6 + 3 * i) ∧ s = ⟨[.val (.loc n), .val (.str x), a, .no], S3⟩) ⟨"", S2, _, str_nil_len, (by rw [str_nil_list]; exact fun _ h => by cases h), hf1.trans hf2, hs2, rfl⟩ ?_ ?_
  · rintro i s hi ⟨x, S3, a, hx, hc, hf, hs, rfl⟩ P hP
    simp only [V0, V1, V2, V3, V4, V5, V6, V7, V8, V9, V10, V11, V12, V13, V14, V15, V16, V17, V18, V19, V20, V21, V22, V23, V24, V25, V26, V27, V28, V29, V30, V31, enOf, wipeS, unwS, List.getElem?_cons_zero, List.getElem?_cons_succ, List.set_cons_zero, List.set_cons_succ, List.append_nil, List.nil_append, List.cons_append, if_true, if_false, if_pos, exists_eq_left', exists_eq_left, exists_and_left, Option.some.injEq, exists_const, ite_true, ite_false, reduceIte, tyD, List.length_cons, List.length_nil, Nat.reduceAdd, Nat.reduceLeDiff, Nat.reduceLT, Int.cast_ofNat_Int, eq_self, Int.reduceEq, Int.reduceLT, Int.reduceLE]
    refine ⟨n, 37, _, rfl, hs, by omega, by decide, by decide, fun r S4 hr hf4 hs4 => ?_⟩
    simp only [V0, V1, V2, V3, V4, V5, V6, V7, V8, V9, V10, V11, V12, V13, V14, V15, V16, V17, V18, V19, V20, V21, V22, V23, V24, V25, V26, V27, V28, V29, V30, V31, enOf, wipeS, unwS, List.getElem?_cons_zero, List.getElem?_cons_succ, List.set_cons_zero, List.set_cons_succ, List.append_nil, List.nil_append, List.cons_append, if_true, if_false, if_pos, exists_eq_left', exists_eq_left, exists_and_left, Option.some.injEq, exists_const, ite_true, ite_false, reduceIte, tyD, List.length_cons, List.length_nil, Nat.reduceAdd, Nat.reduceLeDiff, Nat.reduceLT, Int.cast_ofNat_Int, eq_self, Int.reduceEq, Int.reduceLT, Int.reduceLE]
    have hr' : r < 37 := by omega
    have hc1 : ∀ r : Nat, r < 37 → ∃ c, L2.atI signsS.cps.toList (r : Int) = some c ∧ c ∈ sgn := fun r hr => by
      rw [signs_sgn]
      have h37 : sgn.length = 37 := rfl
      exact ⟨_, Vl.atI_nat (List.getElem?_eq_getElem (by rw [h37]; exact hr)), List.getElem_mem _⟩
    obtain ⟨c, ec, mc⟩ := hc1 r hr'
    refine ⟨show signsS.length ≤ _ by rw [signs_len]; decide, c, ec, ?_, ?_⟩
    · rw [hx]; show i + 1 ≤ _; omega
    · refine hP _ ⟨_, S4, _, ?_, ?_, hf.trans hf4, hs4.mono (by omega), rfl⟩
      · rw [str_len_app, hx]; rfl
      · intro z hz
        rw [str_app_list] at hz
        rcases List.mem_append.mp hz with hz | hz
        · exact hc z hz
        · have : z = c := by simpa using hz
          rw [this]; exact mc
  · rintro s ⟨x, S3, a, hx, hc, hf, hs, rfl⟩
    refine hN2 _ ?_
    have hl : IsLab x := ⟨by omega, by omega, hc⟩
    simp only [V0, V1, V2, V3, V4, V5, V6, V7, V8, V9, V10, V11, V12, V13, V14, V15, V16, V17, V18, V19, V20, V21, V22, V23, V24, V25, V26, V27, V28, V29, V30, V31, enOf, wipeS, unwS, List.getElem?_cons_zero, List.getElem?_cons_succ, List.set_cons_zero, List.set_cons_succ, List.append_nil, List.nil_append, List.cons_append, if_true, if_false, if_pos, exists_eq_left', exists_eq_left, exists_and_left, Option.some.injEq, exists_const, ite_true, ite_false, reduceIte, tyD, List.length_cons, List.length_nil, Nat.reduceAdd, Nat.reduceLeDiff, Nat.reduceLT, Int.cast_ofNat_Int, eq_self, Int.reduceEq, Int.reduceLT, Int.reduceLE]
    have hrep : (List.replicate (Int.toNat 6) [D.str x]).flatten = [D.str x, .str x, .str x, .str x, .str x, .str x] := rfl
    rw [hrep]
    simp only [V0, V1, V2, V3, V4, V5, V6, V7, V8, V9, V10, V11, V12, V13, V14, V15, V16, V17, V18, V19, V20, V21, V22, V23, V24, V25, V26, V27, V28, V29, V30, V31, enOf, wipeS, unwS, List.getElem?_cons_zero, List.getElem?_cons_succ, List.set_cons_zero, List.set_cons_succ, List.append_nil, List.nil_append, List.cons_append, if_true, if_false, if_pos, exists_eq_left', exists_eq_left, exists_and_left, Option.some.injEq, exists_const, ite_true, ite_false, reduceIte, tyD, List.length_cons, List.length_nil, Nat.reduceAdd, Nat.reduceLeDiff, Nat.reduceLT, Int.cast_ofNat_Int, eq_self, Int.reduceEq, Int.reduceLT, Int.reduceLE]
    refine ⟨⟨by decide, by decide⟩, n, 20, _, rfl, hs, by omega, by decide, by decide, fun r S4 hr hf4 hs4 => ?_⟩
    have hr' : r < 20 := by omega
    obtain ⟨z, hz, e⟩ := labW_at hl hr'
    simp only [V0, V1, V2, V3, V4, V5, V6, V7, V8, V9, V10, V11, V12, V13, V14, V15, V16, V17, V18, V19, V20, V21, V22, V23, V24, V25, V26, V27, V28, V29, V30, V31, enOf, wipeS, unwS, List.getElem?_cons_zero, List.getElem?_cons_succ, List.set_cons_zero, List.set_cons_succ, List.append_nil, List.nil_append, List.cons_append, if_true, if_false, if_pos, exists_eq_left', exists_eq_left, exists_and_left, Option.some.injEq, exists_const, ite_true, ite_false, reduceIte, tyD, List.length_cons, List.length_nil, Nat.reduceAdd, Nat.reduceLeDiff, Nat.reduceLT, Int.cast_ofNat_Int, eq_self, Int.reduceEq, Int.reduceLT, Int.reduceLE, e]
    exact h z S4 hz (hf.trans hf4) (hs4.mono (by omega))
theorem cutS_39 (y : Str) : (cutS y none (some 39)).cps.toList = y.cps.toList.take 39 := by
  show ((y.cps.toList.drop (HT.sIx y.length 0 none)).take (HT.sIx y.length y.length (some ((39 : Nat) : Int)) - HT.sIx y.length 0 none)) = _
  rw [HT.sIx_nat, HT.sIx_none, List.drop_zero, Nat.sub_zero, str_len_list]
  by_cases q : 39 ≤ y.cps.toList.length
  · rw [Nat.min_eq_left q]
  · rw [Nat.min_eq_right (by omega), List.take_of_length_le (Nat.le_refl _), List.take_of_length_le (by omega)]
theorem push_list (c : Nat) (y : Str) : ((⟨#[c]⟩ : Str) ++ cutS y none (some 39)).cps.toList = c :: y.cps.toList.take 39 := by
  rw [str_app_list, cutS_39]; rfl
theorem push_lab {c : Nat} {y : Str} (hc : c ∈ sgn) (hy : IsLab y) : IsLab ((⟨#[c]⟩ : Str) ++ cutS y none (some 39)) := by
  refine ⟨?_, ?_, fun z hz => ?_⟩
  · rw [str_len_list, push_list, List.length_cons]; omega
  · rw [str_len_list, push_list, List.length_cons, List.length_take]; omega
  · rw [push_list] at hz
    rcases List.mem_cons.mp hz with rfl | hz
    · exact hc
    · exact hy.sg z (List.mem_of_mem_take hz)
theorem law__law_labels : ∀ ds S G, c__law_labels ds S G → fb__law_labels (enOf G) (startS N__law_labels ds S) := by
  rintro ds S G ⟨n, k, m, rfl, hm, hp, hk, h⟩
  show fb__law_labels (enOf G) ⟨[.val (.loc n), .val (.int m), .no, .no, .no, .no], S⟩
  unfold fb__law_labels
  refine seq_i fun N1 hN1 => ?_
  simp only [V0, V1, V2, V3, V4, V5, V6, V7, V8, V9, V10, V11, V12, V13, V14, V15, V16, V17, V18, V19, V20, V21, V22, V23, V24, V25, V26, V27, V28, V29, V30, V31, enOf, wipeS, unwS, List.getElem?_cons_zero, List.getElem?_cons_succ, List.set_cons_zero, List.set_cons_succ, List.append_nil, List.nil_append, List.cons_append, if_true, if_false, if_pos, exists_eq_left', exists_eq_left, exists_and_left, Option.some.injEq, exists_const, ite_true, ite_false, reduceIte, tyD, List.length_cons, List.length_nil, Nat.reduceAdd, Nat.reduceLeDiff, Nat.reduceLT, Int.cast_ofNat_Int, eq_self, Int.reduceEq, Int.reduceLT, Int.reduceLE]
  refine hN1 _ ?_
  refine seq_i fun N2 hN2 => ?_
  simp only [V0, V1, V2, V3, V4, V5, V6, V7, V8, V9, V10, V11, V12, V13, V14, V15, V16, V17, V18, V19, V20, V21, V22, V23, V24, V25, V26, V27, V28, V29, V30, V31, enOf, wipeS, unwS, List.getElem?_cons_zero, List.getElem?_cons_succ, List.set_cons_zero, List.set_cons_succ, List.append_nil, List.nil_append, List.cons_append, if_true, if_false, if_pos, exists_eq_left', exists_eq_left, exists_and_left, Option.some.injEq, exists_const, ite_true, ite_false, reduceIte, tyD, List.length_cons, List.length_nil, Nat.reduceAdd, Nat.reduceLeDiff, Nat.reduceLT, Int.cast_ofNat_Int, eq_self, Int.reduceEq, Int.reduceLT, Int.reduceLE]
  refine ⟨small62_of (by omega) (by omega), ?_⟩
  rw [upI0, Int.toNat_natCast]
  refine loop_r _ (fun i s => ∃ (l : List Str) (S3 : List C) (a b c : SV), Labs l ∧ l.Nodup ∧ l.length ≤ i ∧ (m ≤ 10 → l.length = i) ∧ (0 < i → l ≠ []) ∧ Fr n S S3 ∧ Has S3 n (k + 200 * i) ∧ s = ⟨[.val (.loc n), .val (.int m), .own (.lst (l.map D.str)), a, b, c], S3⟩) ⟨[], S, _, _, _, (fun _ h => by cases h), List.nodup_nil, Nat.le_refl _, fun _ => rfl, fun h => absurd h (Nat.lt_irrefl _), Fr.refl _ _, hp, rfl⟩ ?_ ?_
  · rintro i s hi ⟨l, S3, a, b, c, h1, h2, h3, h4, h5, hf, hs, rfl⟩ P hP
    refine seq_i fun N3 hN3 => ?_
    simp only [V0, V1, V2, V3, V4, V5, V6, V7, V8, V9, V10, V11, V12, V13, V14, V15, V16, V17, V18, V19, V20, V21, V22, V23, V24, V25, V26, V27, V28, V29, V30, V31, enOf, wipeS, unwS, List.getElem?_cons_zero, List.getElem?_cons_succ, List.set_cons_zero, List.set_cons_succ, List.append_nil, List.nil_append, List.cons_append, if_true, if_false, if_pos, exists_eq_left', exists_eq_left, exists_and_left, Option.some.injEq, exists_const, ite_true, ite_false, reduceIte, tyD, List.length_cons, List.length_nil, Nat.reduceAdd, Nat.reduceLeDiff, Nat.reduceLT, Int.cast_ofNat_Int, eq_self, Int.reduceEq, Int.reduceLT, Int.reduceLE]
    refine ⟨n, _, rfl, hs, by omega, fun x S4 hx hf4 hs4 => ?_⟩
    simp only [V0, V1, V2, V3, V4, V5, V6, V7, V8, V9, V10, V11, V12, V13, V14, V15, V16, V17, V18, V19, V20, V21, V22, V23, V24, V25, V26, V27, V28, V29, V30, V31, enOf, wipeS, unwS, List.getElem?_cons_zero, List.getElem?_cons_succ, List.set_cons_zero, List.set_cons_succ, List.append_nil, List.nil_append, List.cons_append, if_true, if_false, if_pos, exists_eq_left', exists_eq_left, exists_and_left, Option.some.injEq, exists_const, ite_true, ite_false, reduceIte, tyD, List.length_cons, List.length_nil, Nat.reduceAdd, Nat.reduceLeDiff, Nat.reduceLT, Int.cast_ofNat_Int, eq_self, Int.reduceEq, Int.reduceLT, Int.reduceLE]
    refine hN3 _ ?_
    refine seq_i fun N4 hN4 => ?_
    have hz : Vl.signs "zyxwvutsrq" = [122, 121, 120, 119, 118, 117, 116, 115, 114, 113].map (fun c => D.str ⟨#[c]⟩) := by
      show (Str.cps "zyxwvutsrq").toList.map _ = _
      rw [show (Str.cps "zyxwvutsrq").toList = [122, 121, 120, 119, 118, 117, 116, 115, 114, 113] by decide +kernel]
    simp only [V0, V1, V2, V3, V4, V5, V6, V7, V8, V9, V10, V11, V12, V13, V14, V15, V16, V17, V18, V19, V20, V21, V22, V23, V24, V25, V26, V27, V28, V29, V30, V31, enOf, wipeS, unwS, List.getElem?_cons_zero, List.getElem?_cons_succ, List.set_cons_zero, List.set_cons_succ, List.append_nil, List.nil_append, List.cons_append, if_true, if_false, if_pos, exists_eq_left', exists_eq_left, exists_and_left, Option.some.injEq, exists_const, ite_true, ite_false, reduceIte, tyD, List.length_cons, List.length_nil, Nat.reduceAdd, Nat.reduceLeDiff, Nat.reduceLT, Int.cast_ofNat_Int, eq_self, Int.reduceEq, Int.reduceLT, Int.reduceLE, hz]
    refine loop_t _ (fun (pre : List Nat) s => ∃ (y : Str) (q : SV), IsLab y ∧ (y ∈ l → ∃ ws : List Str, ws.length = pre.length ∧ ws.map (fun w => w.cps.toList.head?) = pre.map some ∧ ∀ w ∈ ws, w ∈ l) ∧ s = ⟨[.val (.loc n), .val (.int m), .own (.lst (l.map D.str)), .val (.int i), .val (.str y), q], S4⟩) ⟨x, _, hx, fun _ => ⟨[], rfl, rfl, fun _ h => by cases h⟩, rfl⟩ ?_ ?_
    · rintro pre c s ⟨r, ec⟩ ⟨y, q, hy, hw, rfl⟩ P hP
      simp only [V0, V1, V2, V3, V4, V5, V6, V7, V8, V9, V10, V11, V12, V13, V14, V15, V16, V17, V18, V19, V20, V21, V22, V23, V24, V25, V26, V27, V28, V29, V30, V31, enOf, wipeS, unwS, List.getElem?_cons_zero, List.getElem?_cons_succ, List.set_cons_zero, List.set_cons_succ, List.append_nil, List.nil_append, List.cons_append, if_true, if_false, if_pos, exists_eq_left', exists_eq_left, exists_and_left, Option.some.injEq, exists_const, ite_true, ite_false, reduceIte, tyD, List.length_cons, List.length_nil, Nat.reduceAdd, Nat.reduceLeDiff, Nat.reduceLT, Int.cast_ofNat_Int, eq_self, Int.reduceEq, Int.reduceLT, Int.reduceLE, Vl.flat_strs, flatD, inL_e eqE_str]
      refine ⟨.inl trivial, ?_⟩
      by_cases e : y ∈ l
      · simp only [V0, V1, V2, V3, V4, V5, V6, V7, V8, V9, V10, V11, V12, V13, V14, V15, V16, V17, V18, V19, V20, V21, V22, V23, V24, V25, V26, V27, V28, V29, V30, V31, enOf, wipeS, unwS, List.getElem?_cons_zero, List.getElem?_cons_succ, List.set_cons_zero, List.set_cons_succ, List.append_nil, List.nil_append, List.cons_append, if_true, if_false, if_pos, exists_eq_left', exists_eq_left, exists_and_left, Option.some.injEq, exists_const, ite_true, ite_false, reduceIte, tyD, List.length_cons, List.length_nil, Nat.reduceAdd, Nat.reduceLeDiff, Nat.reduceLT, Int.cast_ofNat_Int, eq_self, Int.reduceEq, Int.reduceLT, Int.reduceLE, e]
        have hc : c ∈ sgn := by
          have : ∀ c ∈ [122, 121, 120, 119, 118, 117, 116, 115, 114, 113], c ∈ sgn := by decide
          exact this c (ec ▸ List.mem_append_right _ List.mem_cons_self)
        have hl := push_lab hc hy
        have hsz := hy.hi
        have hcl : (cutS y none (some 39)).length ≤ 39 := by rw [str_len_list, cutS_39, List.length_take]; omega
        refine ⟨by omega, by rw [str_one_len]; omega, hP _ ⟨_, _, hl, fun hin => ?_, rfl⟩⟩
        obtain ⟨ws, w1, w2, w3⟩ := hw e
        refine ⟨ws ++ [(⟨#[c]⟩ : Str) ++ cutS y none (some 39)], by rw [List.length_append, List.length_append, w1]; rfl, ?_, fun w hw => ?_⟩
        rotate_left
        · rcases List.mem_append.mp hw with hw | hw
          · exact w3 w hw
          · rw [List.mem_singleton.mp hw]; exact hin
        · rw [List.map_append, List.map_append, w2, List.map_singleton, push_list]; rfl
      · simp only [V0, V1, V2, V3, V4, V5, V6, V7, V8, V9, V10, V11, V12, V13, V14, V15, V16, V17, V18, V19, V20, V21, V22, V23, V24, V25, V26, V27, V28, V29, V30, V31, enOf, wipeS, unwS, List.getElem?_cons_zero, List.getElem?_cons_succ, List.set_cons_zero, List.set_cons_succ, List.append_nil, List.nil_append, List.cons_append, if_true, if_false, if_pos, exists_eq_left', exists_eq_left, exists_and_left, Option.some.injEq, exists_const, ite_true, ite_false, reduceIte, tyD, List.length_cons, List.length_nil, Nat.reduceAdd, Nat.reduceLeDiff, Nat.reduceLT, Int.cast_ofNat_Int, eq_self, Int.reduceEq, Int.reduceLT, Int.reduceLE, e]
        exact hP _ ⟨_, _, hy, fun h => absurd h e, rfl⟩
    · rintro s ⟨y, q, hy, hw, rfl⟩
      refine hN4 _ ?_
      simp only [V0, V1, V2, V3, V4, V5, V6, V7, V8, V9, V10, V11, V12, V13, V14, V15, V16, V17, V18, V19, V20, V21, V22, V23, V24, V25, V26, V27, V28, V29, V30, V31, enOf, wipeS, unwS, List.getElem?_cons_zero, List.getElem?_cons_succ, List.set_cons_zero, List.set_cons_succ, List.append_nil, List.nil_append, List.cons_append, if_true, if_false, if_pos, exists_eq_left', exists_eq_left, exists_and_left, Option.some.injEq, exists_const, ite_true, ite_false, reduceIte, tyD, List.length_cons, List.length_nil, Nat.reduceAdd, Nat.reduceLeDiff, Nat.reduceLT, Int.cast_ofNat_Int, eq_self, Int.reduceEq, Int.reduceLT, Int.reduceLE, Vl.flat_strs, flatD, inL_e eqE_str]
      refine ⟨.inl trivial, ?_⟩
      by_cases e : y ∈ l
      · simp only [V0, V1, V2, V3, V4, V5, V6, V7, V8, V9, V10, V11, V12, V13, V14, V15, V16, V17, V18, V19, V20, V21, V22, V23, V24, V25, V26, V27, V28, V29, V30, V31, enOf, wipeS, unwS, List.getElem?_cons_zero, List.getElem?_cons_succ, List.set_cons_zero, List.set_cons_succ, List.append_nil, List.nil_append, List.cons_append, if_true, if_false, if_pos, exists_eq_left', exists_eq_left, exists_and_left, Option.some.injEq, exists_const, ite_true, ite_false, reduceIte, tyD, List.length_cons, List.length_nil, Nat.reduceAdd, Nat.reduceLeDiff, Nat.reduceLT, Int.cast_ofNat_Int, eq_self, Int.reduceEq, Int.reduceLT, Int.reduceLE, e]
        obtain ⟨ws, w1, w2, w3⟩ := hw e
        have hnd : ws.Nodup := by
          have : (ws.map fun w => w.cps.toList.head?).Nodup := by rw [w2]; decide
          exact (List.pairwise_map.mp this).imp fun h e => h (by rw [e])
        have h10 : 10 ≤ l.length := by
          have := hnd.length_le_of_subset (fun w hw => w3 w hw)
          rw [w1] at this; exact this
        refine hP _ ⟨l, S4, _, _, _, h1, h2, by omega, fun hm => by omega, fun _ hn => by rw [hn] at h10; simp at h10, hf.trans hf4, hs4.mono (by omega), rfl⟩
      · simp only [V0, V1, V2, V3, V4, V5, V6, V7, V8, V9, V10, V11, V12, V13, V14, V15, V16, V17, V18, V19, V20, V21, V22, V23, V24, V25, V26, V27, V28, V29, V30, V31, enOf, wipeS, unwS, List.getElem?_cons_zero, List.getElem?_cons_succ, List.set_cons_zero, List.set_cons_succ, List.append_nil, List.nil_append, List.cons_append, if_true, if_false, if_pos, exists_eq_left', exists_eq_left, exists_and_left, Option.some.injEq, exists_const, ite_true, ite_false, reduceIte, tyD, List.length_cons, List.length_nil, Nat.reduceAdd, Nat.reduceLeDiff, Nat.reduceLT, Int.cast_ofNat_Int, eq_self, Int.reduceEq, Int.reduceLT, Int.reduceLE, e, List.length_map]
        refine ⟨by omega, hP _ ⟨l ++ [y], S4, _, _, _, fun z hz => ?_, ?_, ?_, fun hm => ?_, fun _ => by simp, hf.trans hf4, hs4.mono (by omega), by rw [List.map_append]; rfl⟩⟩
        · rcases List.mem_append.mp hz with hz | hz
          · exact h1 z hz
          · rw [List.mem_singleton.mp hz]; exact hy
        · rw [List.nodup_append]
          refine ⟨h2, by simp, fun a ha b hb => ?_⟩
          rw [List.mem_singleton.mp hb]
          exact fun z => e (z ▸ ha)
        · rw [List.length_append, List.length_singleton]; omega
        · rw [List.length_append, List.length_singleton, h4 hm]
  · rintro s ⟨l, S3, a, b, c, h1, h2, h3, h4, h5, hf, hs, rfl⟩
    refine hN2 _ ?_
    simp only [V0, V1, V2, V3, V4, V5, V6, V7, V8, V9, V10, V11, V12, V13, V14, V15, V16, V17, V18, V19, V20, V21, V22, V23, V24, V25, V26, V27, V28, V29, V30, V31, enOf, wipeS, unwS, List.getElem?_cons_zero, List.getElem?_cons_succ, List.set_cons_zero, List.set_cons_succ, List.append_nil, List.nil_append, List.cons_append, if_true, if_false, if_pos, exists_eq_left', exists_eq_left, exists_and_left, Option.some.injEq, exists_const, ite_true, ite_false, reduceIte, tyD, List.length_cons, List.length_nil, Nat.reduceAdd, Nat.reduceLeDiff, Nat.reduceLT, Int.cast_ofNat_Int, eq_self, Int.reduceEq, Int.reduceLT, Int.reduceLE]
    exact h l S3 h1 h2 h3 h4 h5 hf hs
theorem law__law_script : ∀ ds S G, c__law_script ds S G → fb__law_script (enOf G) (startS N__law_script ds S) := by
  rintro ds S G ⟨n, k, l, m, rfl, hm, hl, hlab, hp, hk, h⟩
  show fb__law_script (enOf G) ⟨[.val (.loc n), .val (dS l), .val (.int m), .no, .no], S⟩
  unfold fb__law_script
  refine seq_i fun N1 hN1 => ?_
  simp only [V0, V1, V2, V3, V4, V5, V6, V7, V8, V9, V10, V11, V12, V13, V14, V15, V16, V17, V18, V19, V20, V21, V22, V23, V24, V25, V26, V27, V28, V29, V30, V31, enOf, wipeS, unwS, List.getElem?_cons_zero, List.getElem?_cons_succ, List.set_cons_zero, List.set_cons_succ, List.append_nil, List.nil_append, List.cons_append, if_true, if_false, if_pos, exists_eq_left', exists_eq_left, exists_and_left, Option.some.injEq, exists_const, ite_true, ite_false, reduceIte, tyD, List.length_cons, List.length_nil, Nat.reduceAdd, Nat.reduceLeDiff, Nat.reduceLT, Int.cast_ofNat_Int, eq_self, Int.reduceEq, Int.reduceLT, Int.reduceLE]
  refine ⟨n, k, 2, rfl, by decide, hp, by omega, fun l2 S2 g1 g2 g3 g4 g5 hf2 hs2 => ?_⟩
  have hl2 : l2.length = 2 := g4 (by decide)
  simp only [V0, V1, V2, V3, V4, V5, V6, V7, V8, V9, V10, V11, V12, V13, V14, V15, V16, V17, V18, V19, V20, V21, V22, V23, V24, V25, V26, V27, V28, V29, V30, V31, enOf, wipeS, unwS, List.getElem?_cons_zero, List.getElem?_cons_succ, List.set_cons_zero, List.set_cons_succ, List.append_nil, List.nil_append, List.cons_append, if_true, if_false, if_pos, exists_eq_left', exists_eq_left, exists_and_left, Option.some.injEq, exists_const, ite_true, ite_false, reduceIte, tyD, List.length_cons, List.length_nil, Nat.reduceAdd, Nat.reduceLeDiff, Nat.reduceLT, Int.cast_ofNat_Int, eq_self, Int.reduceEq, Int.reduceLT, Int.reduceLE, List.length_map]
  refine ⟨by omega, hN1 _ ?_⟩
  have em : (l.map D.str ++ l2.map D.str) = (l ++ l2).map D.str := (List.map_append).symm
  rw [em]
  simp only [V0, V1, V2, V3, V4, V5, V6, V7, V8, V9, V10, V11, V12, V13, V14, V15, V16, V17, V18, V19, V20, V21, V22, V23, V24, V25, V26, V27, V28, V29, V30, V31, enOf, wipeS, unwS, List.getElem?_cons_zero, List.getElem?_cons_succ, List.set_cons_zero, List.set_cons_succ, List.append_nil, List.nil_append, List.cons_append, if_true, if_false, if_pos, exists_eq_left', exists_eq_left, exists_and_left, Option.some.injEq, exists_const, ite_true, ite_false, reduceIte, tyD, List.length_cons, List.length_nil, Nat.reduceAdd, Nat.reduceLeDiff, Nat.reduceLT, Int.cast_ofNat_Int, eq_self, Int.reduceEq, Int.reduceLT, Int.reduceLE]
  refine ⟨n, (m : Int) + 1, _, rfl, hs2, by omega, by omega, by omega, fun r S3 hr hf3 hs3 => ?_⟩
  simp only [V0, V1, V2, V3, V4, V5, V6, V7, V8, V9, V10, V11, V12, V13, V14, V15, V16, V17, V18, V19, V20, V21, V22, V23, V24, V25, V26, V27, V28, V29, V30, V31, enOf, wipeS, unwS, List.getElem?_cons_zero, List.getElem?_cons_succ, List.set_cons_zero, List.set_cons_succ, List.append_nil, List.nil_append, List.cons_append, if_true, if_false, if_pos, exists_eq_left', exists_eq_left, exists_and_left, Option.some.injEq, exists_const, ite_true, ite_false, reduceIte, tyD, List.length_cons, List.length_nil, Nat.reduceAdd, Nat.reduceLeDiff, Nat.reduceLT, Int.cast_ofNat_Int, eq_self, Int.reduceEq, Int.reduceLT, Int.reduceLE]
  refine ⟨small62_of (by omega) (by omega), ?_⟩
  rw [upI0, Int.toNat_natCast]
  have hne : (l ++ l2).map D.str ≠ [] := by
    intro e
    have := congrArg List.length e
    simp only [List.length_map, List.length_append, List.length_nil] at this
    omega
  have hlen : ((l ++ l2).map D.str).length < 2 ^ 60 := by rw [List.length_map, List.length_append]; omega
  have hmem : ∀ d ∈ (l ++ l2).map D.str, ∃ x, d = D.str x ∧ IsLab x := fun d hd => by
    obtain ⟨x, hx, rfl⟩ := List.mem_map.mp hd
    rcases List.mem_append.mp hx with hx | hx
    · exact ⟨x, rfl, hlab x hx⟩
    · exact ⟨x, rfl, g1 x hx⟩
  refine comp_inv (fun i acc s => ∃ (ms : List Stp) (S4 : List C), IsScr ms ∧ ms.length = i ∧ acc = ms.map dSt ∧ Fr n S S4 ∧ Has S4 n (k + 400 + 3 + 6 * i) ∧ s = ⟨[.val (.loc n), .val (dS l), .val (.int m), .val (dS (l ++ l2)), .no], S4⟩) ⟨[], S3, (fun _ h => by cases h), rfl, rfl, hf2.trans hf3, hs3.mono (by omega), rfl⟩ (by rw [List.length_map, List.length_range, szl]; omega) ?_ ?_
  · rintro i d acc s hd ⟨ms, S4, h1, h2, rfl, hf, hs, rfl⟩ P h0 hP
    have hi : i < r := by
      have := (List.getElem?_eq_some_iff.mp hd).1
      rw [List.length_map, List.length_range] at this; exact this
    simp only [V0, V1, V2, V3, V4, V5, V6, V7, V8, V9, V10, V11, V12, V13, V14, V15, V16, V17, V18, V19, V20, V21, V22, V23, V24, V25, V26, V27, V28, V29, V30, V31, enOf, wipeS, unwS, List.getElem?_cons_zero, List.getElem?_cons_succ, List.set_cons_zero, List.set_cons_succ, List.append_nil, List.nil_append, List.cons_append, if_true, if_false, if_pos, exists_eq_left', exists_eq_left, exists_and_left, Option.some.injEq, exists_const, ite_true, ite_false, reduceIte, tyD, List.length_cons, List.length_nil, Nat.reduceAdd, Nat.reduceLeDiff, Nat.reduceLT, Int.cast_ofNat_Int, eq_self, Int.reduceEq, Int.reduceLT, Int.reduceLE]
    refine ⟨n, _, _, rfl, hs, by omega, hne, hlen, fun d1 hd1 S5 hf5 hs5 => ?_⟩
    obtain ⟨x, rfl, hx⟩ := hmem d1 hd1
    simp only [V0, V1, V2, V3, V4, V5, V6, V7, V8, V9, V10, V11, V12, V13, V14, V15, V16, V17, V18, V19, V20, V21, V22, V23, V24, V25, V26, V27, V28, V29, V30, V31, enOf, wipeS, unwS, List.getElem?_cons_zero, List.getElem?_cons_succ, List.set_cons_zero, List.set_cons_succ, List.append_nil, List.nil_append, List.cons_append, if_true, if_false, if_pos, exists_eq_left', exists_eq_left, exists_and_left, Option.some.injEq, exists_const, ite_true, ite_false, reduceIte, tyD, List.length_cons, List.length_nil, Nat.reduceAdd, Nat.reduceLeDiff, Nat.reduceLT, Int.cast_ofNat_Int, eq_self, Int.reduceEq, Int.reduceLT, Int.reduceLE]
    refine ⟨n, _, _, rfl, hs5, by omega, hne, hlen, fun d2 hd2 S6 hf6 hs6 => ?_⟩
    obtain ⟨y, rfl, hy⟩ := hmem d2 hd2
    simp only [V0, V1, V2, V3, V4, V5, V6, V7, V8, V9, V10, V11, V12, V13, V14, V15, V16, V17, V18, V19, V20, V21, V22, V23, V24, V25, V26, V27, V28, V29, V30, V31, enOf, wipeS, unwS, List.getElem?_cons_zero, List.getElem?_cons_succ, List.set_cons_zero, List.set_cons_succ, List.append_nil, List.nil_append, List.cons_append, if_true, if_false, if_pos, exists_eq_left', exists_eq_left, exists_and_left, Option.some.injEq, exists_const, ite_true, ite_false, reduceIte, tyD, List.length_cons, List.length_nil, Nat.reduceAdd, Nat.reduceLeDiff, Nat.reduceLT, Int.cast_ofNat_Int, eq_self, Int.reduceEq, Int.reduceLT, Int.reduceLE]
    refine hP _ _ ⟨ms ++ [(x, y)], S6, fun z hz => ?_, by rw [List.length_append, h2]; rfl, by rw [List.map_append]; rfl, hf.trans (hf5.trans hf6), hs6.mono (by omega), rfl⟩
    rcases List.mem_append.mp hz with hz | hz
    · exact h1 z hz
    · rw [List.mem_singleton.mp hz]; exact ⟨hx, hy⟩
  · rintro acc s ⟨ms, S4, h1, h2, rfl, hf, hs, rfl⟩
    rw [List.length_map, List.length_range] at h2 hs
    simp only [V0, V1, V2, V3, V4, V5, V6, V7, V8, V9, V10, V11, V12, V13, V14, V15, V16, V17, V18, V19, V20, V21, V22, V23, V24, V25, V26, V27, V28, V29, V30, V31, enOf, wipeS, unwS, List.getElem?_cons_zero, List.getElem?_cons_succ, List.set_cons_zero, List.set_cons_succ, List.append_nil, List.nil_append, List.cons_append, if_true, if_false, if_pos, exists_eq_left', exists_eq_left, exists_and_left, Option.some.injEq, exists_const, ite_true, ite_false, reduceIte, tyD, List.length_cons, List.length_nil, Nat.reduceAdd, Nat.reduceLeDiff, Nat.reduceLT, Int.cast_ofNat_Int, eq_self, Int.reduceEq, Int.reduceLT, Int.reduceLE]
    exact h ms S4 h1 (by omega) hf (hs.mono (by omega))
theorem law__law_becomes : ∀ ds S G, c__law_becomes ds S G → fb__law_becomes (enOf G) (startS N__law_becomes ds S) := by
  rintro ds S G ⟨ms, x, rfl, h⟩
  show fb__law_becomes (enOf G) ⟨[.val (dM ms), .val (.str x), .no, .no], S⟩
  unfold fb__law_becomes
  refine seq_i fun N hN => ?_
  simp only [V0, V1, V2, V3, V4, V5, V6, V7, V8, V9, V10, V11, V12, V13, V14, V15, V16, V17, V18, V19, V20, V21, V22, V23, V24, V25, V26, V27, V28, V29, V30, V31, enOf, wipeS, unwS, List.getElem?_cons_zero, List.getElem?_cons_succ, List.set_cons_zero, List.set_cons_succ, List.append_nil, List.nil_append, List.cons_append, if_true, if_false, if_pos, exists_eq_left', exists_eq_left, exists_and_left, Option.some.injEq, exists_const, ite_true, ite_false, reduceIte, tyD, List.length_cons, List.length_nil, Nat.reduceAdd, Nat.reduceLeDiff, Nat.reduceLT, Int.cast_ofNat_Int, eq_self, Int.reduceEq, Int.reduceLT, Int.reduceLE]
  refine loop_s dSt (fun (y : Str) s => ∃ p q, s = ⟨[.val (dM ms), .val (.str y), p, q], S⟩) (fun y m => if y = m.1 then m.2 else y) ⟨_, _, rfl⟩ ?_ ?_
  · rintro m hm y s ⟨p, q, rfl⟩ P hP
    simp only [V0, V1, V2, V3, V4, V5, V6, V7, V8, V9, V10, V11, V12, V13, V14, V15, V16, V17, V18, V19, V20, V21, V22, V23, V24, V25, V26, V27, V28, V29, V30, V31, enOf, wipeS, unwS, List.getElem?_cons_zero, List.getElem?_cons_succ, List.set_cons_zero, List.set_cons_succ, List.append_nil, List.nil_append, List.cons_append, if_true, if_false, if_pos, exists_eq_left', exists_eq_left, exists_and_left, Option.some.injEq, exists_const, ite_true, ite_false, reduceIte, tyD, List.length_cons, List.length_nil, Nat.reduceAdd, Nat.reduceLeDiff, Nat.reduceLT, Int.cast_ofNat_Int, eq_self, Int.reduceEq, Int.reduceLT, Int.reduceLE]
    by_cases e : y = m.1 <;> simp only [V0, V1, V2, V3, V4, V5, V6, V7, V8, V9, V10, V11, V12, V13, V14, V15, V16, V17, V18, V19, V20, V21, V22, V23, V24, V25, V26, V27, V28, V29, V30, V31, enOf, wipeS, unwS, List.getElem?_cons_zero, List.getElem?_cons_succ, List.set_cons_zero, List.set_cons_succ, List.append_nil, List.nil_append, List.cons_append, if_true, if_false, if_pos, exists_eq_left', exists_eq_left, exists_and_left, Option.some.injEq, exists_const, ite_true, ite_false, reduceIte, tyD, List.length_cons, List.length_nil, Nat.reduceAdd, Nat.reduceLeDiff, Nat.reduceLT, Int.cast_ofNat_Int, eq_self, Int.reduceEq, Int.reduceLT, Int.reduceLE, e] at hP ⊢ <;> exact hP _ ⟨_, _, rfl⟩
  · rintro s ⟨p, q, rfl⟩
    refine hN _ ?_
    simp only [V0, V1, V2, V3, V4, V5, V6, V7, V8, V9, V10, V11, V12, V13, V14, V15, V16, V17, V18, V19, V20, V21, V22, V23, V24, V25, V26, V27, V28, V29, V30, V31, enOf, wipeS, unwS, List.getElem?_cons_zero, List.getElem?_cons_succ, List.set_cons_zero, List.set_cons_succ, List.append_nil, List.nil_append, List.cons_append, if_true, if_false, if_pos, exists_eq_left', exists_eq_left, exists_and_left, Option.some.injEq, exists_const, ite_true, ite_false, reduceIte, tyD, List.length_cons, List.length_nil, Nat.reduceAdd, Nat.reduceLeDiff, Nat.reduceLT, Int.cast_ofNat_Int, eq_self, Int.reduceEq, Int.reduceLT, Int.reduceLE]
    exact h
theorem law__law_names : ∀ ds S G, c__law_names ds S G → fb__law_names (enOf G) (startS N__law_names ds S) := by
  rintro ds S G ⟨ms, rfl, hm, h⟩
  show fb__law_names (enOf G) ⟨[.val (dM ms), .no, .no, .no], S⟩
  unfold fb__law_names
  have hlen : ∀ l : List Stp, (l.flatMap fun m => [m.1, m.2]).length = 2 * l.length := fun l => by
    induction l with
    | nil => rfl
    | cons m l ih => simp only [List.flatMap_cons, List.length_append, List.length_cons, List.length_nil] at ih ⊢; omega
  refine seq_i fun N hN => ?_
  simp only [V0, V1, V2, V3, V4, V5, V6, V7, V8, V9, V10, V11, V12, V13, V14, V15, V16, V17, V18, V19, V20, V21, V22, V23, V24, V25, V26, V27, V28, V29, V30, V31, enOf, wipeS, unwS, List.getElem?_cons_zero, List.getElem?_cons_succ, List.set_cons_zero, List.set_cons_succ, List.append_nil, List.nil_append, List.cons_append, if_true, if_false, if_pos, exists_eq_left', exists_eq_left, exists_and_left, Option.some.injEq, exists_const, ite_true, ite_false, reduceIte, tyD, List.length_cons, List.length_nil, Nat.reduceAdd, Nat.reduceLeDiff, Nat.reduceLT, Int.cast_ofNat_Int, eq_self, Int.reduceEq, Int.reduceLT, Int.reduceLE]
  refine hN _ ?_
  refine seq_i fun N2 hN2 => ?_
  simp only [V0, V1, V2, V3, V4, V5, V6, V7, V8, V9, V10, V11, V12, V13, V14, V15, V16, V17, V18, V19, V20, V21, V22, V23, V24, V25, V26, V27, V28, V29, V30, V31, enOf, wipeS, unwS, List.getElem?_cons_zero, List.getElem?_cons_succ, List.set_cons_zero, List.set_cons_succ, List.append_nil, List.nil_append, List.cons_append, if_true, if_false, if_pos, exists_eq_left', exists_eq_left, exists_and_left, Option.some.injEq, exists_const, ite_true, ite_false, reduceIte, tyD, List.length_cons, List.length_nil, Nat.reduceAdd, Nat.reduceLeDiff, Nat.reduceLT, Int.cast_ofNat_Int, eq_self, Int.reduceEq, Int.reduceLT, Int.reduceLE]
  refine loop_t dSt (fun pre s => ∃ p q, s = ⟨[.val (dM ms), .val (dS (pre.flatMap fun m => [m.1, m.2])), p, q], S⟩) ⟨_, _, rfl⟩ ?_ ?_
  · rintro pre m s ⟨r, e⟩ ⟨p, q, rfl⟩ P hP
    have hl : pre.length < ms.length := by rw [e]; simp
    have h2 := hlen pre
    simp only [V0, V1, V2, V3, V4, V5, V6, V7, V8, V9, V10, V11, V12, V13, V14, V15, V16, V17, V18, V19, V20, V21, V22, V23, V24, V25, V26, V27, V28, V29, V30, V31, enOf, wipeS, unwS, List.getElem?_cons_zero, List.getElem?_cons_succ, List.set_cons_zero, List.set_cons_succ, List.append_nil, List.nil_append, List.cons_append, if_true, if_false, if_pos, exists_eq_left', exists_eq_left, exists_and_left, Option.some.injEq, exists_const, ite_true, ite_false, reduceIte, tyD, List.length_cons, List.length_nil, Nat.reduceAdd, Nat.reduceLeDiff, Nat.reduceLT, Int.cast_ofNat_Int, eq_self, Int.reduceEq, Int.reduceLT, Int.reduceLE, List.length_map]
    refine ⟨by omega, hP _ ⟨_, _, by rw [List.flatMap_append, List.flatMap_singleton]; unfold dS; rw [List.map_append]; rfl⟩⟩
  · rintro s ⟨p, q, rfl⟩
    refine hN2 _ ?_
    simp only [V0, V1, V2, V3, V4, V5, V6, V7, V8, V9, V10, V11, V12, V13, V14, V15, V16, V17, V18, V19, V20, V21, V22, V23, V24, V25, V26, V27, V28, V29, V30, V31, enOf, wipeS, unwS, List.getElem?_cons_zero, List.getElem?_cons_succ, List.set_cons_zero, List.set_cons_succ, List.append_nil, List.nil_append, List.cons_append, if_true, if_false, if_pos, exists_eq_left', exists_eq_left, exists_and_left, Option.some.injEq, exists_const, ite_true, ite_false, reduceIte, tyD, List.length_cons, List.length_nil, Nat.reduceAdd, Nat.reduceLeDiff, Nat.reduceLT, Int.cast_ofNat_Int, eq_self, Int.reduceEq, Int.reduceLT, Int.reduceLE]
    exact ⟨_, rfl, by rw [hlen]; omega, h⟩
theorem soL_in {ms : List Stp} {x : Str} (h : x ∈ nmF ms) : soL ms x = nmF ms := by
  unfold soL
  have e : uq (nmF ms ++ [x]) = nmF ms := by
    have := uq_nodup (nodup_nmF ms)
    unfold uq at this ⊢
    rw [List.foldl_append, this, List.foldl_cons, List.foldl_nil]
    unfold uqF
    rw [if_pos (by simpa using h)]
  rw [e]
  exact srtS_idem _
theorem soF_in {ms : List Stp} {x : Str} (h : x ∈ nmF ms) : soF ms x = (nmF ms).filter fun y => decide (imgF ms y = x) := by unfold soF; rw [soL_in h]
theorem law_melted : ∀ ds S G, c_melted ds S G → fb_melted (enOf G) (startS N_melted ds S) := by
  rintro ds S G ⟨ms, rfl, hm, hs, h⟩
  show fb_melted (enOf G) ⟨[.val (dM ms), .no, .no, .no], S⟩
  unfold fb_melted
  have hn := len_nmF ms
  refine seq_i fun N1 hN1 => ?_
  simp only [V0, V1, V2, V3, V4, V5, V6, V7, V8, V9, V10, V11, V12, V13, V14, V15, V16, V17, V18, V19, V20, V21, V22, V23, V24, V25, V26, V27, V28, V29, V30, V31, enOf, wipeS, unwS, List.getElem?_cons_zero, List.getElem?_cons_succ, List.set_cons_zero, List.set_cons_succ, List.append_nil, List.nil_append, List.cons_append, if_true, if_false, if_pos, exists_eq_left', exists_eq_left, exists_and_left, Option.some.injEq, exists_const, ite_true, ite_false, reduceIte, tyD, List.length_cons, List.length_nil, Nat.reduceAdd, Nat.reduceLeDiff, Nat.reduceLT, Int.cast_ofNat_Int, eq_self, Int.reduceEq, Int.reduceLT, Int.reduceLE]
  refine ⟨ms, rfl, by omega, hs, hN1 _ ?_⟩
  refine seq_i fun N2 hN2 => ?_
  simp only [V0, V1, V2, V3, V4, V5, V6, V7, V8, V9, V10, V11, V12, V13, V14, V15, V16, V17, V18, V19, V20, V21, V22, V23, V24, V25, V26, V27, V28, V29, V30, V31, enOf, wipeS, unwS, List.getElem?_cons_zero, List.getElem?_cons_succ, List.set_cons_zero, List.set_cons_succ, List.append_nil, List.nil_append, List.cons_append, if_true, if_false, if_pos, exists_eq_left', exists_eq_left, exists_and_left, Option.some.injEq, exists_const, ite_true, ite_false, reduceIte, tyD, List.length_cons, List.length_nil, Nat.reduceAdd, Nat.reduceLeDiff, Nat.reduceLT, Int.cast_ofNat_Int, eq_self, Int.reduceEq, Int.reduceLT, Int.reduceLE]
  refine ⟨ms, rfl, by omega, ?_⟩
  simp only [V0, V1, V2, V3, V4, V5, V6, V7, V8, V9, V10, V11, V12, V13, V14, V15, V16, V17, V18, V19, V20, V21, V22, V23, V24, V25, V26, V27, V28, V29, V30, V31, enOf, wipeS, unwS, List.getElem?_cons_zero, List.getElem?_cons_succ, List.set_cons_zero, List.set_cons_succ, List.append_nil, List.nil_append, List.cons_append, if_true, if_false, if_pos, exists_eq_left', exists_eq_left, exists_and_left, Option.some.injEq, exists_const, ite_true, ite_false, reduceIte, tyD, List.length_cons, List.length_nil, Nat.reduceAdd, Nat.reduceLeDiff, Nat.reduceLT, Int.cast_ofNat_Int, eq_self, Int.reduceEq, Int.reduceLT, Int.reduceLE]
  refine comp_l D.str rfl (fun pre acc s => acc = (List.range pre.length).map (fun i => D.loc (S.length + i)) ∧ s = ⟨[.val (dM ms), .no, .no, .no], S ++ pre.map fun x => C.lst ((soF ms x).map D.str)⟩) ⟨rfl, by simp⟩ (by rw [szl]; omega) ?_ ?_
  · rintro pre x acc s ⟨t, ez⟩ ⟨rfl, rfl⟩ P h0 h1
    simp only [V0, V1, V2, V3, V4, V5, V6, V7, V8, V9, V10, V11, V12, V13, V14, V15, V16, V17, V18, V19, V20, V21, V22, V23, V24, V25, V26, V27, V28, V29, V30, V31, enOf, wipeS, unwS, List.getElem?_cons_zero, List.getElem?_cons_succ, List.set_cons_zero, List.set_cons_succ, List.append_nil, List.nil_append, List.cons_append, if_true, if_false, if_pos, exists_eq_left', exists_eq_left, exists_and_left, Option.some.injEq, exists_const, ite_true, ite_false, reduceIte, tyD, List.length_cons, List.length_nil, Nat.reduceAdd, Nat.reduceLeDiff, Nat.reduceLT, Int.cast_ofNat_Int, eq_self, Int.reduceEq, Int.reduceLT, Int.reduceLE]
    refine ⟨ms, x, rfl, by omega, ?_⟩
    simp only [V0, V1, V2, V3, V4, V5, V6, V7, V8, V9, V10, V11, V12, V13, V14, V15, V16, V17, V18, V19, V20, V21, V22, V23, V24, V25, V26, V27, V28, V29, V30, V31, enOf, wipeS, unwS, List.getElem?_cons_zero, List.getElem?_cons_succ, List.set_cons_zero, List.set_cons_succ, List.append_nil, List.nil_append, List.cons_append, if_true, if_false, if_pos, exists_eq_left', exists_eq_left, exists_and_left, Option.some.injEq, exists_const, ite_true, ite_false, reduceIte, tyD, List.length_cons, List.length_nil, Nat.reduceAdd, Nat.reduceLeDiff, Nat.reduceLT, Int.cast_ofNat_Int, eq_self, Int.reduceEq, Int.reduceLT, Int.reduceLE]
    refine h1 _ _ ⟨?_, ?_⟩
    · simp [List.range_succ]
    · rw [List.map_append, ← List.append_assoc]; rfl
  · rintro acc s ⟨rfl, rfl⟩
    simp only [V0, V1, V2, V3, V4, V5, V6, V7, V8, V9, V10, V11, V12, V13, V14, V15, V16, V17, V18, V19, V20, V21, V22, V23, V24, V25, V26, V27, V28, V29, V30, V31, enOf, wipeS, unwS, List.getElem?_cons_zero, List.getElem?_cons_succ, List.set_cons_zero, List.set_cons_succ, List.append_nil, List.nil_append, List.cons_append, if_true, if_false, if_pos, exists_eq_left', exists_eq_left, exists_and_left, Option.some.injEq, exists_const, ite_true, ite_false, reduceIte, tyD, List.length_cons, List.length_nil, Nat.reduceAdd, Nat.reduceLeDiff, Nat.reduceLT, Int.cast_ofNat_Int, eq_self, Int.reduceEq, Int.reduceLT, Int.reduceLE]
    refine hN2 _ ?_
    generalize hS1 : S ++ (nmF ms).map (fun x => C.lst ((soF ms x).map D.str)) = S1
    have gw : Gw S S1 := ⟨_, hS1.symm⟩
    have get : ∀ i, i < (nmF ms).length → S1[S.length + i]? = some (C.lst ((soF ms ((nmF ms).getD i "")).map D.str)) := fun i hi => by
      rw [← hS1, List.getElem?_append_right (by omega), Nat.add_sub_cancel_left, List.getElem?_map, List.getD_eq_getElem?_getD, List.getElem?_eq_getElem hi]; rfl
    simp only [V0, V1, V2, V3, V4, V5, V6, V7, V8, V9, V10, V11, V12, V13, V14, V15, V16, V17, V18, V19, V20, V21, V22, V23, V24, V25, V26, V27, V28, V29, V30, V31, enOf, wipeS, unwS, List.getElem?_cons_zero, List.getElem?_cons_succ, List.set_cons_zero, List.set_cons_succ, List.append_nil, List.nil_append, List.cons_append, if_true, if_false, if_pos, exists_eq_left', exists_eq_left, exists_and_left, Option.some.injEq, exists_const, ite_true, ite_false, reduceIte, tyD, List.length_cons, List.length_nil, Nat.reduceAdd, Nat.reduceLeDiff, Nat.reduceLT, Int.cast_ofNat_Int, eq_self, Int.reduceEq, Int.reduceLT, Int.reduceLE]
    refine comp_f (fun i : Nat => D.loc (S.length + i)) rfl (fun i => decide (1 < (soF ms ((nmF ms).getD i "")).length)) (fun i => i) (fun i : Nat => D.loc (S.length + i)) (by rw [List.length_range, szl]; omega) (fun i hi P h1 h0 => ?_) ?_
    · have hi := List.mem_range.mp hi
      simp only [V0, V1, V2, V3, V4, V5, V6, V7, V8, V9, V10, V11, V12, V13, V14, V15, V16, V17, V18, V19, V20, V21, V22, V23, V24, V25, V26, V27, V28, V29, V30, V31, enOf, wipeS, unwS, List.getElem?_cons_zero, List.getElem?_cons_succ, List.set_cons_zero, List.set_cons_succ, List.append_nil, List.nil_append, List.cons_append, if_true, if_false, if_pos, exists_eq_left', exists_eq_left, exists_and_left, Option.some.injEq, exists_const, ite_true, ite_false, reduceIte, tyD, List.length_cons, List.length_nil, Nat.reduceAdd, Nat.reduceLeDiff, Nat.reduceLT, Int.cast_ofNat_Int, eq_self, Int.reduceEq, Int.reduceLT, Int.reduceLE, get i hi, List.length_map]
      exact pick (Bool.eq_iff_iff.mpr (by simp only [decide_eq_true_iff]; omega)) h1 h0
    · simp only [V0, V1, V2, V3, V4, V5, V6, V7, V8, V9, V10, V11, V12, V13, V14, V15, V16, V17, V18, V19, V20, V21, V22, V23, V24, V25, V26, V27, V28, V29, V30, V31, enOf, wipeS, unwS, List.getElem?_cons_zero, List.getElem?_cons_succ, List.set_cons_zero, List.set_cons_succ, List.append_nil, List.nil_append, List.cons_append, if_true, if_false, if_pos, exists_eq_left', exists_eq_left, exists_and_left, Option.some.injEq, exists_const, ite_true, ite_false, reduceIte, tyD, List.length_cons, List.length_nil, Nat.reduceAdd, Nat.reduceLeDiff, Nat.reduceLT, Int.cast_ofNat_Int, eq_self, Int.reduceEq, Int.reduceLT, Int.reduceLE, List.map_id']
      generalize hls : (List.range (nmF ms).length).filter (fun i => decide (1 < (soF ms ((nmF ms).getD i "")).length)) = is
      have his : ∀ i ∈ is, i < (nmF ms).length := fun i hi => by rw [← hls] at hi; exact List.mem_range.mp (List.mem_filter.mp hi).1
      have er : (is.map fun i => D.loc (S.length + i)).map (rsv S1) = (meG ms).map dS := by
        rw [List.map_map]
        have e1 : is.map (rsv S1 ∘ fun i => D.loc (S.length + i)) = is.map fun i => dS (soF ms ((nmF ms).getD i "")) := List.map_congr_left fun i hi => by
          show rsv S1 (.loc (S.length + i)) = _
          rw [rsv_loc (get i (his i hi))]; rfl
        rw [e1, ← hls]
        unfold meG
        have e2 : nmF ms = (List.range (nmF ms).length).map fun i => (nmF ms).getD i "" := by
          refine List.ext_getElem? fun i => ?_
          rw [List.getElem?_map]
          by_cases q : i < (nmF ms).length
          · rw [List.getElem?_range q, List.getElem?_eq_getElem q]
            show _ = some ((nmF ms).getD i "")
            rw [List.getD_eq_getElem?_getD, List.getElem?_eq_getElem q]; rfl
          · rw [List.getElem?_eq_none (by omega), List.getElem?_eq_none (by rw [List.length_range]; omega)]; rfl
        conv => rhs; rw [e2]
        rw [List.map_map, List.filter_map, List.map_map]
        rfl
      rw [er]
      refine ⟨srtOk_dS _, ?_⟩
      have eq0 : (is.map fun i => D.loc (S.length + i)) = (is.map fun i => S.length + i).map D.loc := by rw [List.map_map]; rfl
      rw [eq0] at er ⊢
      obtain ⟨ls, e3, pl⟩ := perm_locs (srtL_perm S1 ((is.map fun i => S.length + i).map D.loc))
      have e4 := srtL_rsv S1 ((is.map fun i => S.length + i).map D.loc)
      rw [e3, er, List.map_map] at e4
      rw [e3]
      have nd : (is.map fun i => S.length + i).Nodup := by
        rw [← hls]
        exact (List.nodup_range.filter _).map _ (fun a b hab => by omega)
      refine h ls S1 gw (pl.nodup_iff.mpr nd) (fun n hn => ?_) e4
      obtain ⟨i, hi, rfl⟩ := List.mem_map.mp (pl.mem_iff.mp hn)
      refine ⟨by omega, _, get i (his i hi), ?_, ?_⟩
      · refine soF_lab hs (nmF_lab hs _ ?_)
        rw [List.getD_eq_getElem?_getD, List.getElem?_eq_getElem (his i hi)]
        exact List.getElem_mem _
      · have := len_soF ms ((nmF ms).getD i "")
        omega
theorem law__law_groups : ∀ ds S G, c__law_groups ds S G → fb__law_groups (enOf G) (startS N__law_groups ds S) := by
  rintro ds S G ⟨ms, rfl, hm, hs, h⟩
  show fb__law_groups (enOf G) ⟨[.val (dM ms), .no, .no, .no, .no], S⟩
  unfold fb__law_groups
  have hn := len_nmF ms
  refine seq_i fun N1 hN1 => ?_
  simp only [V0, V1, V2, V3, V4, V5, V6, V7, V8, V9, V10, V11, V12, V13, V14, V15, V16, V17, V18, V19, V20, V21, V22, V23, V24, V25, V26, V27, V28, V29, V30, V31, enOf, wipeS, unwS, List.getElem?_cons_zero, List.getElem?_cons_succ, List.set_cons_zero, List.set_cons_succ, List.append_nil, List.nil_append, List.cons_append, if_true, if_false, if_pos, exists_eq_left', exists_eq_left, exists_and_left, Option.some.injEq, exists_const, ite_true, ite_false, reduceIte, tyD, List.length_cons, List.length_nil, Nat.reduceAdd, Nat.reduceLeDiff, Nat.reduceLT, Int.cast_ofNat_Int, eq_self, Int.reduceEq, Int.reduceLT, Int.reduceLE]
  refine hN1 _ ?_
  refine seq_i fun N2 hN2 => for_i fun M hM => ?_
  simp only [V0, V1, V2, V3, V4, V5, V6, V7, V8, V9, V10, V11, V12, V13, V14, V15, V16, V17, V18, V19, V20, V21, V22, V23, V24, V25, V26, V27, V28, V29, V30, V31, enOf, wipeS, unwS, List.getElem?_cons_zero, List.getElem?_cons_succ, List.set_cons_zero, List.set_cons_succ, List.append_nil, List.nil_append, List.cons_append, if_true, if_false, if_pos, exists_eq_left', exists_eq_left, exists_and_left, Option.some.injEq, exists_const, ite_true, ite_false, reduceIte, tyD, List.length_cons, List.length_nil, Nat.reduceAdd, Nat.reduceLeDiff, Nat.reduceLT, Int.cast_ofNat_Int, eq_self, Int.reduceEq, Int.reduceLT, Int.reduceLE]
  refine ⟨ms, rfl, hm, ?_⟩
  simp only [V0, V1, V2, V3, V4, V5, V6, V7, V8, V9, V10, V11, V12, V13, V14, V15, V16, V17, V18, V19, V20, V21, V22, V23, V24, V25, V26, V27, V28, V29, V30, V31, enOf, wipeS, unwS, List.getElem?_cons_zero, List.getElem?_cons_succ, List.set_cons_zero, List.set_cons_succ, List.append_nil, List.nil_append, List.cons_append, if_true, if_false, if_pos, exists_eq_left', exists_eq_left, exists_and_left, Option.some.injEq, exists_const, ite_true, ite_false, reduceIte, tyD, List.length_cons, List.length_nil, Nat.reduceAdd, Nat.reduceLeDiff, Nat.reduceLT, Int.cast_ofNat_Int, eq_self, Int.reduceEq, Int.reduceLT, Int.reduceLE]
  refine hM _ _ ?_
  refine loop_t D.str (fun pre s => ∃ a b, s = ⟨[.val (dM ms), .own (.lst (pre.map fun x => D.tup [.str x, dS ((nmF ms).filter fun y => decide (imgF ms y = x))])), a, b, .no], S⟩) ⟨_, _, rfl⟩ ?_ ?_
  · rintro pre x s ⟨t, ez⟩ ⟨a, b, rfl⟩ P hP
    have hpl : pre.length < (nmF ms).length := by rw [ez, List.length_append, List.length_cons]; omega
    refine seq_i fun N3 hN3 => ?_
    simp only [V0, V1, V2, V3, V4, V5, V6, V7, V8, V9, V10, V11, V12, V13, V14, V15, V16, V17, V18, V19, V20, V21, V22, V23, V24, V25, V26, V27, V28, V29, V30, V31, enOf, wipeS, unwS, List.getElem?_cons_zero, List.getElem?_cons_succ, List.set_cons_zero, List.set_cons_succ, List.append_nil, List.nil_append, List.cons_append, if_true, if_false, if_pos, exists_eq_left', exists_eq_left, exists_and_left, Option.some.injEq, exists_const, ite_true, ite_false, reduceIte, tyD, List.length_cons, List.length_nil, Nat.reduceAdd, Nat.reduceLeDiff, Nat.reduceLT, Int.cast_ofNat_Int, eq_self, Int.reduceEq, Int.reduceLT, Int.reduceLE]
    refine ⟨ms, rfl, hm, ?_⟩
    simp only [V0, V1, V2, V3, V4, V5, V6, V7, V8, V9, V10, V11, V12, V13, V14, V15, V16, V17, V18, V19, V20, V21, V22, V23, V24, V25, V26, V27, V28, V29, V30, V31, enOf, wipeS, unwS, List.getElem?_cons_zero, List.getElem?_cons_succ, List.set_cons_zero, List.set_cons_succ, List.append_nil, List.nil_append, List.cons_append, if_true, if_false, if_pos, exists_eq_left', exists_eq_left, exists_and_left, Option.some.injEq, exists_const, ite_true, ite_false, reduceIte, tyD, List.length_cons, List.length_nil, Nat.reduceAdd, Nat.reduceLeDiff, Nat.reduceLT, Int.cast_ofNat_Int, eq_self, Int.reduceEq, Int.reduceLT, Int.reduceLE]
    refine comp_f D.str rfl (fun y => decide (imgF ms y = x)) (fun y => y) D.str (by rw [szl]; omega) (fun y hy P h1 h0 => ?_) ?_
    · simp only [V0, V1, V2, V3, V4, V5, V6, V7, V8, V9, V10, V11, V12, V13, V14, V15, V16, V17, V18, V19, V20, V21, V22, V23, V24, V25, V26, V27, V28, V29, V30, V31, enOf, wipeS, unwS, List.getElem?_cons_zero, List.getElem?_cons_succ, List.set_cons_zero, List.set_cons_succ, List.append_nil, List.nil_append, List.cons_append, if_true, if_false, if_pos, exists_eq_left', exists_eq_left, exists_and_left, Option.some.injEq, exists_const, ite_true, ite_false, reduceIte, tyD, List.length_cons, List.length_nil, Nat.reduceAdd, Nat.reduceLeDiff, Nat.reduceLT, Int.cast_ofNat_Int, eq_self, Int.reduceEq, Int.reduceLT, Int.reduceLE]
      refine ⟨ms, y, rfl, ?_⟩
      simp only [V0, V1, V2, V3, V4, V5, V6, V7, V8, V9, V10, V11, V12, V13, V14, V15, V16, V17, V18, V19, V20, V21, V22, V23, V24, V25, V26, V27, V28, V29, V30, V31, enOf, wipeS, unwS, List.getElem?_cons_zero, List.getElem?_cons_succ, List.set_cons_zero, List.set_cons_succ, List.append_nil, List.nil_append, List.cons_append, if_true, if_false, if_pos, exists_eq_left', exists_eq_left, exists_and_left, Option.some.injEq, exists_const, ite_true, ite_false, reduceIte, tyD, List.length_cons, List.length_nil, Nat.reduceAdd, Nat.reduceLeDiff, Nat.reduceLT, Int.cast_ofNat_Int, eq_self, Int.reduceEq, Int.reduceLT, Int.reduceLE]
      exact pick rfl h1 h0
    · simp only [V0, V1, V2, V3, V4, V5, V6, V7, V8, V9, V10, V11, V12, V13, V14, V15, V16, V17, V18, V19, V20, V21, V22, V23, V24, V25, V26, V27, V28, V29, V30, V31, enOf, wipeS, unwS, List.getElem?_cons_zero, List.getElem?_cons_succ, List.set_cons_zero, List.set_cons_succ, List.append_nil, List.nil_append, List.cons_append, if_true, if_false, if_pos, exists_eq_left', exists_eq_left, exists_and_left, Option.some.injEq, exists_const, ite_true, ite_false, reduceIte, tyD, List.length_cons, List.length_nil, Nat.reduceAdd, Nat.reduceLeDiff, Nat.reduceLT, Int.cast_ofNat_Int, eq_self, Int.reduceEq, Int.reduceLT, Int.reduceLE, List.map_id']
      refine hN3 _ ?_
      simp only [V0, V1, V2, V3, V4, V5, V6, V7, V8, V9, V10, V11, V12, V13, V14, V15, V16, V17, V18, V19, V20, V21, V22, V23, V24, V25, V26, V27, V28, V29, V30, V31, enOf, wipeS, unwS, List.getElem?_cons_zero, List.getElem?_cons_succ, List.set_cons_zero, List.set_cons_succ, List.append_nil, List.nil_append, List.cons_append, if_true, if_false, if_pos, exists_eq_left', exists_eq_left, exists_and_left, Option.some.injEq, exists_const, ite_true, ite_false, reduceIte, tyD, List.length_cons, List.length_nil, Nat.reduceAdd, Nat.reduceLeDiff, Nat.reduceLT, Int.cast_ofNat_Int, eq_self, Int.reduceEq, Int.reduceLT, Int.reduceLE, List.length_map]
      refine ⟨by omega, ?_⟩
      exact hP _ ⟨_, _, by rw [List.map_append]; rfl⟩
  · rintro s ⟨a, b, rfl⟩
    refine hN2 _ ?_
    simp only [V0, V1, V2, V3, V4, V5, V6, V7, V8, V9, V10, V11, V12, V13, V14, V15, V16, V17, V18, V19, V20, V21, V22, V23, V24, V25, V26, V27, V28, V29, V30, V31, enOf, wipeS, unwS, List.getElem?_cons_zero, List.getElem?_cons_succ, List.set_cons_zero, List.set_cons_succ, List.append_nil, List.nil_append, List.cons_append, if_true, if_false, if_pos, exists_eq_left', exists_eq_left, exists_and_left, Option.some.injEq, exists_const, ite_true, ite_false, reduceIte, tyD, List.length_cons, List.length_nil, Nat.reduceAdd, Nat.reduceLeDiff, Nat.reduceLT, Int.cast_ofNat_Int, eq_self, Int.reduceEq, Int.reduceLT, Int.reduceLE]
    exact h
theorem law__law_right : ∀ ds S G, c__law_right ds S G → fb__law_right (enOf G) (startS N__law_right ds S) := by
  rintro ds S G ⟨ms, rfl, hm, hs, h⟩
  show fb__law_right (enOf G) ⟨[.val (dM ms), .no, .no, .no, .no, .no, .no, .no, .no], S⟩
  unfold fb__law_right
  have hn := len_nmF ms
  have ok0 : showOk (dM ms) := (shk_dM hs (by omega)).ok
  refine seq_i fun N1 hN1 => ?_
  simp only [V0, V1, V2, V3, V4, V5, V6, V7, V8, V9, V10, V11, V12, V13, V14, V15, V16, V17, V18, V19, V20, V21, V22, V23, V24, V25, V26, V27, V28, V29, V30, V31, enOf, wipeS, unwS, List.getElem?_cons_zero, List.getElem?_cons_succ, List.set_cons_zero, List.set_cons_succ, List.append_nil, List.nil_append, List.cons_append, if_true, if_false, if_pos, exists_eq_left', exists_eq_left, exists_and_left, Option.some.injEq, exists_const, ite_true, ite_false, reduceIte, tyD, List.length_cons, List.length_nil, Nat.reduceAdd, Nat.reduceLeDiff, Nat.reduceLT, Int.cast_ofNat_Int, eq_self, Int.reduceEq, Int.reduceLT, Int.reduceLE]
  refine ⟨ms, rfl, by omega, hs, ?_⟩
  simp only [V0, V1, V2, V3, V4, V5, V6, V7, V8, V9, V10, V11, V12, V13, V14, V15, V16, V17, V18, V19, V20, V21, V22, V23, V24, V25, V26, V27, V28, V29, V30, V31, enOf, wipeS, unwS, List.getElem?_cons_zero, List.getElem?_cons_succ, List.set_cons_zero, List.set_cons_succ, List.append_nil, List.nil_append, List.cons_append, if_true, if_false, if_pos, exists_eq_left', exists_eq_left, exists_and_left, Option.some.injEq, exists_const, ite_true, ite_false, reduceIte, tyD, List.length_cons, List.length_nil, Nat.reduceAdd, Nat.reduceLeDiff, Nat.reduceLT, Int.cast_ofNat_Int, eq_self, Int.reduceEq, Int.reduceLT, Int.reduceLE]
  refine ⟨ok0, hN1 _ ?_⟩
  generalize hK : shownD (dM ms) = Kx
  generalize hrow : (fun x => (nmF ms).filter fun y => decide (imgF ms y = x)) = row
  have hrx : ∀ x, ((nmF ms).filter fun y => decide (imgF ms y = x)) = row x := fun x => by rw [← hrow]
  have hso : ∀ x ∈ nmF ms, soF ms x = row x := fun x hx => by rw [soF_in hx, hrx]
  have hrl : ∀ x, Labs (row x) := fun x y hy => by rw [← hrow] at hy; exact nmF_lab hs y (List.mem_filter.mp hy).1
  simp only [hrx]
  have els : lsF ms = (nmF ms).filter fun x => decide (row x = []) := by
    unfold lsF
    exact List.filter_congr fun x hx => by rw [hso x hx]
  have eme : meF ms = srtD false ((((nmF ms).filter fun x => decide (1 < (row x).length)).map row).map dS) := by
    unfold meF meG
    rw [List.filter_map, show ((fun g => decide (1 < List.length g)) ∘ soF ms) = fun x => decide (1 < (soF ms x).length) from rfl, List.filter_congr (q := fun x => decide (1 < (row x).length)) (fun x hx => by rw [hso x hx])]
    rw [List.map_congr_left (g := row) (fun x hx => hso x (List.mem_filter.mp hx).1)]
  refine seq_i fun N2 hN2 => ?_
  simp only [V0, V1, V2, V3, V4, V5, V6, V7, V8, V9, V10, V11, V12, V13, V14, V15, V16, V17, V18, V19, V20, V21, V22, V23, V24, V25, V26, V27, V28, V29, V30, V31, enOf, wipeS, unwS, List.getElem?_cons_zero, List.getElem?_cons_succ, List.set_cons_zero, List.set_cons_succ, List.append_nil, List.nil_append, List.cons_append, if_true, if_false, if_pos, exists_eq_left', exists_eq_left, exists_and_left, Option.some.injEq, exists_const, ite_true, ite_false, reduceIte, tyD, List.length_cons, List.length_nil, Nat.reduceAdd, Nat.reduceLeDiff, Nat.reduceLT, Int.cast_ofNat_Int, eq_self, Int.reduceEq, Int.reduceLT, Int.reduceLE]
  refine comp_f (fun x => D.tup [.str x, dS (row x)]) rfl (fun x => decide (row x = [])) (fun x => x) D.str (by rw [szl]; omega) (fun x hx P h1 h0 => ?_) ?_
  · simp only [V0, V1, V2, V3, V4, V5, V6, V7, V8, V9, V10, V11, V12, V13, V14, V15, V16, V17, V18, V19, V20, V21, V22, V23, V24, V25, V26, V27, V28, V29, V30, V31, enOf, wipeS, unwS, List.getElem?_cons_zero, List.getElem?_cons_succ, List.set_cons_zero, List.set_cons_succ, List.append_nil, List.nil_append, List.cons_append, if_true, if_false, if_pos, exists_eq_left', exists_eq_left, exists_and_left, Option.some.injEq, exists_const, ite_true, ite_false, reduceIte, tyD, List.length_cons, List.length_nil, Nat.reduceAdd, Nat.reduceLeDiff, Nat.reduceLT, Int.cast_ofNat_Int, eq_self, Int.reduceEq, Int.reduceLT, Int.reduceLE]
    refine ⟨cmp_S0 (hrl x), ?_⟩
    rw [eqD_m0]
    exact pick rfl h1 h0
  · simp only [V0, V1, V2, V3, V4, V5, V6, V7, V8, V9, V10, V11, V12, V13, V14, V15, V16, V17, V18, V19, V20, V21, V22, V23, V24, V25, V26, V27, V28, V29, V30, V31, enOf, wipeS, unwS, List.getElem?_cons_zero, List.getElem?_cons_succ, List.set_cons_zero, List.set_cons_succ, List.append_nil, List.nil_append, List.cons_append, if_true, if_false, if_pos, exists_eq_left', exists_eq_left, exists_and_left, Option.some.injEq, exists_const, ite_true, ite_false, reduceIte, tyD, List.length_cons, List.length_nil, Nat.reduceAdd, Nat.reduceLeDiff, Nat.reduceLT, Int.cast_ofNat_Int, eq_self, Int.reduceEq, Int.reduceLT, Int.reduceLE, List.map_id']
    rw [← els]
    refine comp_f (fun x => D.tup [.str x, dS (row x)]) rfl (fun x => decide (1 < (row x).length)) row dS (by rw [szl]; omega) (fun x hx P h1 h0 => ?_) ?_
    · simp only [V0, V1, V2, V3, V4, V5, V6, V7, V8, V9, V10, V11, V12, V13, V14, V15, V16, V17, V18, V19, V20, V21, V22, V23, V24, V25, V26, V27, V28, V29, V30, V31, enOf, wipeS, unwS, List.getElem?_cons_zero, List.getElem?_cons_succ, List.set_cons_zero, List.set_cons_succ, List.append_nil, List.nil_append, List.cons_append, if_true, if_false, if_pos, exists_eq_left', exists_eq_left, exists_and_left, Option.some.injEq, exists_const, ite_true, ite_false, reduceIte, tyD, List.length_cons, List.length_nil, Nat.reduceAdd, Nat.reduceLeDiff, Nat.reduceLT, Int.cast_ofNat_Int, eq_self, Int.reduceEq, Int.reduceLT, Int.reduceLE, List.length_map]
      exact pick (Bool.eq_iff_iff.mpr (by simp only [decide_eq_true_iff]; omega)) h1 h0
    · simp only [V0, V1, V2, V3, V4, V5, V6, V7, V8, V9, V10, V11, V12, V13, V14, V15, V16, V17, V18, V19, V20, V21, V22, V23, V24, V25, V26, V27, V28, V29, V30, V31, enOf, wipeS, unwS, List.getElem?_cons_zero, List.getElem?_cons_succ, List.set_cons_zero, List.set_cons_succ, List.append_nil, List.nil_append, List.cons_append, if_true, if_false, if_pos, exists_eq_left', exists_eq_left, exists_and_left, Option.some.injEq, exists_const, ite_true, ite_false, reduceIte, tyD, List.length_cons, List.length_nil, Nat.reduceAdd, Nat.reduceLeDiff, Nat.reduceLT, Int.cast_ofNat_Int, eq_self, Int.reduceEq, Int.reduceLT, Int.reduceLE]
      refine ⟨srtOk_dS _, ?_⟩
      rw [← eme]
      refine hN2 _ ?_
      refine seq_i fun N3 hN3 => ?_
      simp only [V0, V1, V2, V3, V4, V5, V6, V7, V8, V9, V10, V11, V12, V13, V14, V15, V16, V17, V18, V19, V20, V21, V22, V23, V24, V25, V26, V27, V28, V29, V30, V31, enOf, wipeS, unwS, List.getElem?_cons_zero, List.getElem?_cons_succ, List.set_cons_zero, List.set_cons_succ, List.append_nil, List.nil_append, List.cons_append, if_true, if_false, if_pos, exists_eq_left', exists_eq_left, exists_and_left, Option.some.injEq, exists_const, ite_true, ite_false, reduceIte, tyD, List.length_cons, List.length_nil, Nat.reduceAdd, Nat.reduceLeDiff, Nat.reduceLT, Int.cast_ofNat_Int, eq_self, Int.reduceEq, Int.reduceLT, Int.reduceLE]
      refine ⟨ms, rfl, by omega, hs, ?_⟩
      simp only [V0, V1, V2, V3, V4, V5, V6, V7, V8, V9, V10, V11, V12, V13, V14, V15, V16, V17, V18, V19, V20, V21, V22, V23, V24, V25, V26, V27, V28, V29, V30, V31, enOf, wipeS, unwS, List.getElem?_cons_zero, List.getElem?_cons_succ, List.set_cons_zero, List.set_cons_succ, List.append_nil, List.nil_append, List.cons_append, if_true, if_false, if_pos, exists_eq_left', exists_eq_left, exists_and_left, Option.some.injEq, exists_const, ite_true, ite_false, reduceIte, tyD, List.length_cons, List.length_nil, Nat.reduceAdd, Nat.reduceLeDiff, Nat.reduceLT, Int.cast_ofNat_Int, eq_self, Int.reduceEq, Int.reduceLT, Int.reduceLE]
      refine ⟨ms, rfl, by omega, hs, fun ls S1 gw nd hls hme => ?_⟩
      simp only [V0, V1, V2, V3, V4, V5, V6, V7, V8, V9, V10, V11, V12, V13, V14, V15, V16, V17, V18, V19, V20, V21, V22, V23, V24, V25, V26, V27, V28, V29, V30, V31, enOf, wipeS, unwS, List.getElem?_cons_zero, List.getElem?_cons_succ, List.set_cons_zero, List.set_cons_succ, List.append_nil, List.nil_append, List.cons_append, if_true, if_false, if_pos, exists_eq_left', exists_eq_left, exists_and_left, Option.some.injEq, exists_const, ite_true, ite_false, reduceIte, tyD, List.length_cons, List.length_nil, Nat.reduceAdd, Nat.reduceLeDiff, Nat.reduceLT, Int.cast_ofNat_Int, eq_self, Int.reduceEq, Int.reduceLT, Int.reduceLE]
      refine hN3 _ ?_
      have lyl : ly 1 (dS (lsF ms)) := ly_dS fun x hx => nmF_lab hs x (List.mem_filter.mp hx).1
      have lym : ly 2 (.lst (meF ms)) := meF_ly (n := 0) hs
      have rme : ∀ S' : List C, (meF ms).map (rsv S') = meF ms := fun S' => by
        conv => rhs; rw [← List.map_id (meF ms)]
        refine List.map_congr_left fun d hd => ?_
        obtain ⟨l, _, rfl⟩ := List.mem_map.mp ((meF_perm ms).mem_iff.mp hd)
        exact rsv_dS l
      refine seq_i fun N4 hN4 => ?_
      simp only [V0, V1, V2, V3, V4, V5, V6, V7, V8, V9, V10, V11, V12, V13, V14, V15, V16, V17, V18, V19, V20, V21, V22, V23, V24, V25, V26, V27, V28, V29, V30, V31, enOf, wipeS, unwS, List.getElem?_cons_zero, List.getElem?_cons_succ, List.set_cons_zero, List.set_cons_succ, List.append_nil, List.nil_append, List.cons_append, if_true, if_false, if_pos, exists_eq_left', exists_eq_left, exists_and_left, Option.some.injEq, exists_const, ite_true, ite_false, reduceIte, tyD, List.length_cons, List.length_nil, Nat.reduceAdd, Nat.reduceLeDiff, Nat.reduceLT, Int.cast_ofNat_Int, eq_self, Int.reduceEq, Int.reduceLT, Int.reduceLE]
      refine ⟨cmp_ly lyl lyl, ?_⟩
      rw [show eqD (.lst ((lsF ms).map D.str)) (.lst ((lsF ms).map D.str)) = true from eqD_same lyl]
      simp only [V0, V1, V2, V3, V4, V5, V6, V7, V8, V9, V10, V11, V12, V13, V14, V15, V16, V17, V18, V19, V20, V21, V22, V23, V24, V25, V26, V27, V28, V29, V30, V31, enOf, wipeS, unwS, List.getElem?_cons_zero, List.getElem?_cons_succ, List.set_cons_zero, List.set_cons_succ, List.append_nil, List.nil_append, List.cons_append, if_true, if_false, if_pos, exists_eq_left', exists_eq_left, exists_and_left, Option.some.injEq, exists_const, ite_true, ite_false, reduceIte, tyD, List.length_cons, List.length_nil, Nat.reduceAdd, Nat.reduceLeDiff, Nat.reduceLT, Int.cast_ofNat_Int, eq_self, Int.reduceEq, Int.reduceLT, Int.reduceLE]
      rw [List.map_map, show ((rsv S1) ∘ D.loc) = fun n => rsv S1 (.loc n) from rfl, hme, rme]
      refine ⟨cmp_ly lym lym, ?_⟩
      rw [eqD_same lym]
      simp only [V0, V1, V2, V3, V4, V5, V6, V7, V8, V9, V10, V11, V12, V13, V14, V15, V16, V17, V18, V19, V20, V21, V22, V23, V24, V25, V26, V27, V28, V29, V30, V31, enOf, wipeS, unwS, List.getElem?_cons_zero, List.getElem?_cons_succ, List.set_cons_zero, List.set_cons_succ, List.append_nil, List.nil_append, List.cons_append, if_true, if_false, if_pos, exists_eq_left', exists_eq_left, exists_and_left, Option.some.injEq, exists_const, ite_true, ite_false, reduceIte, tyD, List.length_cons, List.length_nil, Nat.reduceAdd, Nat.reduceLeDiff, Nat.reduceLT, Int.cast_ofNat_Int, eq_self, Int.reduceEq, Int.reduceLT, Int.reduceLE]
      refine ⟨ok0, ?_⟩
      rw [hK, decide_eq_true rfl, if_neg (by decide)]
      refine hN4 _ ?_
      refine seq_i fun N5 hN5 => for_i fun M hM => ?_
      simp only [V0, V1, V2, V3, V4, V5, V6, V7, V8, V9, V10, V11, V12, V13, V14, V15, V16, V17, V18, V19, V20, V21, V22, V23, V24, V25, V26, V27, V28, V29, V30, V31, enOf, wipeS, unwS, List.getElem?_cons_zero, List.getElem?_cons_succ, List.set_cons_zero, List.set_cons_succ, List.append_nil, List.nil_append, List.cons_append, if_true, if_false, if_pos, exists_eq_left', exists_eq_left, exists_and_left, Option.some.injEq, exists_const, ite_true, ite_false, reduceIte, tyD, List.length_cons, List.length_nil, Nat.reduceAdd, Nat.reduceLeDiff, Nat.reduceLT, Int.cast_ofNat_Int, eq_self, Int.reduceEq, Int.reduceLT, Int.reduceLE]
      refine hM _ _ ?_
      have lsl : (lsF ms).length ≤ 16 := Nat.le_trans (List.length_filter_le ..) (by omega)
      have pre0 : ∀ S2 : List C, S2.length = S1.length → (∀ j, j < S.length → S2[j]? = S1[j]?) → Gw S S2 := fun S2 e1 e2 => Gw_of (fun j hj => by
        rw [e2 j hj]
        obtain ⟨T, rfl⟩ := gw
        exact List.getElem?_append_left hj) (by rw [e1]; exact gw.le)
      refine loop_t D.loc (fun pre s => ∃ a S2, s = ⟨[.val (dM ms), a, .val (.lst ((nmF ms).map fun x => D.tup [.str x, dS (row x)])), .val (.str Kx), .val (.lst ((lsF ms).map D.str)), .val (.lst (meF ms)), .own (.lst ((lsF ms).map D.str)), .val (.lst (ls.map D.loc)), .no], S2⟩ ∧ S2.length = S1.length ∧ (∀ j, j < S.length → S2[j]? = S1[j]?) ∧ ∀ n ∈ ls, ∃ xs, S2[n]? = some (.lst xs) ∧ xs.length ≤ 10000 + pre.length) ⟨_, S1, rfl, rfl, fun _ _ => rfl, fun n hn => ?_⟩ ?_ ?_
      · obtain ⟨_, r, e, _, hr⟩ := hls n hn
        exact ⟨_, e, by rw [List.length_map]; omega⟩
      · rintro pre n s ⟨t, ez⟩ ⟨a, S2, rfl, e1, e2, e3⟩ P hP
        have hn : n ∈ ls := by rw [ez]; simp
        obtain ⟨xs, ex, hx⟩ := e3 n hn
        have hlt : n < S2.length := (List.getElem?_eq_some_iff.mp ex).1
        have hpl : pre.length ≤ ls.length := by rw [ez, List.length_append]; omega
        have hll : ls.length ≤ 100000 := by
          have := congrArg List.length hme
          rw [List.length_map] at this
          have hp := (meF_perm ms).length_eq
          rw [List.length_map] at hp
          have : (meG ms).length ≤ (nmF ms).length := by
            unfold meG
            exact Nat.le_trans (List.length_filter_le ..) (by rw [List.length_map]; exact Nat.le_refl _)
          omega
        simp only [V0, V1, V2, V3, V4, V5, V6, V7, V8, V9, V10, V11, V12, V13, V14, V15, V16, V17, V18, V19, V20, V21, V22, V23, V24, V25, V26, V27, V28, V29, V30, V31, enOf, wipeS, unwS, List.getElem?_cons_zero, List.getElem?_cons_succ, List.set_cons_zero, List.set_cons_succ, List.append_nil, List.nil_append, List.cons_append, if_true, if_false, if_pos, exists_eq_left', exists_eq_left, exists_and_left, Option.some.injEq, exists_const, ite_true, ite_false, reduceIte, tyD, List.length_cons, List.length_nil, Nat.reduceAdd, Nat.reduceLeDiff, Nat.reduceLT, Int.cast_ofNat_Int, eq_self, Int.reduceEq, Int.reduceLT, Int.reduceLE, ex]
        refine ⟨by omega, hP _ ⟨_, _, rfl, by rw [List.length_set]; exact e1, fun j hj => ?_, fun m hm => ?_⟩⟩
        · have := (hls n hn).1
          rw [List.getElem?_set_ne (by omega)]; exact e2 j hj
        · rw [List.length_append, List.length_singleton]
          by_cases q : n = m
          · subst q
            exact ⟨_, List.getElem?_set_self hlt, by rw [List.length_append, List.length_singleton]; omega⟩
          · obtain ⟨ys, ey, hy⟩ := e3 m hm
            exact ⟨ys, by rw [List.getElem?_set_ne q]; exact ey, by omega⟩
      · rintro s ⟨a, S2, rfl, e1, e2, e3⟩
        have gw2 := pre0 S2 e1 e2
        refine hN5 _ ?_
        refine seq_i fun N6 hN6 => ?_
        simp only [V0, V1, V2, V3, V4, V5, V6, V7, V8, V9, V10, V11, V12, V13, V14, V15, V16, V17, V18, V19, V20, V21, V22, V23, V24, V25, V26, V27, V28, V29, V30, V31, enOf, wipeS, unwS, List.getElem?_cons_zero, List.getElem?_cons_succ, List.set_cons_zero, List.set_cons_succ, List.append_nil, List.nil_append, List.cons_append, if_true, if_false, if_pos, exists_eq_left', exists_eq_left, exists_and_left, Option.some.injEq, exists_const, ite_true, ite_false, reduceIte, tyD, List.length_cons, List.length_nil, Nat.reduceAdd, Nat.reduceLeDiff, Nat.reduceLT, Int.cast_ofNat_Int, eq_self, Int.reduceEq, Int.reduceLT, Int.reduceLE, List.length_map]
        refine ⟨by omega, hN6 _ ?_⟩
        simp only [V0, V1, V2, V3, V4, V5, V6, V7, V8, V9, V10, V11, V12, V13, V14, V15, V16, V17, V18, V19, V20, V21, V22, V23, V24, V25, V26, V27, V28, V29, V30, V31, enOf, wipeS, unwS, List.getElem?_cons_zero, List.getElem?_cons_succ, List.set_cons_zero, List.set_cons_succ, List.append_nil, List.nil_append, List.cons_append, if_true, if_false, if_pos, exists_eq_left', exists_eq_left, exists_and_left, Option.some.injEq, exists_const, ite_true, ite_false, reduceIte, tyD, List.length_cons, List.length_nil, Nat.reduceAdd, Nat.reduceLeDiff, Nat.reduceLT, Int.cast_ofNat_Int, eq_self, Int.reduceEq, Int.reduceLT, Int.reduceLE]
        refine ⟨ms, rfl, by omega, hs, ?_⟩
        simp only [V0, V1, V2, V3, V4, V5, V6, V7, V8, V9, V10, V11, V12, V13, V14, V15, V16, V17, V18, V19, V20, V21, V22, V23, V24, V25, V26, V27, V28, V29, V30, V31, enOf, wipeS, unwS, List.getElem?_cons_zero, List.getElem?_cons_succ, List.set_cons_zero, List.set_cons_succ, List.append_nil, List.nil_append, List.cons_append, if_true, if_false, if_pos, exists_eq_left', exists_eq_left, exists_and_left, Option.some.injEq, exists_const, ite_true, ite_false, reduceIte, tyD, List.length_cons, List.length_nil, Nat.reduceAdd, Nat.reduceLeDiff, Nat.reduceLT, Int.cast_ofNat_Int, eq_self, Int.reduceEq, Int.reduceLT, Int.reduceLE]
        refine ⟨cmp_ly lyl lyl, ?_⟩
        rw [show eqD (.lst ((lsF ms).map D.str)) (.lst ((lsF ms).map D.str)) = true from eqD_same lyl, if_pos rfl]
        refine ⟨ms, rfl, by omega, hs, fun ls3 S3 gw3 nd3 hls3 hme3 => ?_⟩
        simp only [V0, V1, V2, V3, V4, V5, V6, V7, V8, V9, V10, V11, V12, V13, V14, V15, V16, V17, V18, V19, V20, V21, V22, V23, V24, V25, V26, V27, V28, V29, V30, V31, enOf, wipeS, unwS, List.getElem?_cons_zero, List.getElem?_cons_succ, List.set_cons_zero, List.set_cons_succ, List.append_nil, List.nil_append, List.cons_append, if_true, if_false, if_pos, exists_eq_left', exists_eq_left, exists_and_left, Option.some.injEq, exists_const, ite_true, ite_false, reduceIte, tyD, List.length_cons, List.length_nil, Nat.reduceAdd, Nat.reduceLeDiff, Nat.reduceLT, Int.cast_ofNat_Int, eq_self, Int.reduceEq, Int.reduceLT, Int.reduceLE]
        rw [List.map_map, show ((rsv S3) ∘ D.loc) = fun n => rsv S3 (.loc n) from rfl, hme3, rme]
        refine ⟨cmp_ly lym lym, ?_⟩
        rw [eqD_same lym]
        exact h S3 (gw2.trans gw3)
theorem ls_aa : lsF [("a", "a")] = [] := by
  unfold lsF soF soL nmF nmL
  simp only [srtC_eq]
  decide +kernel
theorem ls_ab : lsF [("a", "b")] = [("a" : Str)] := by
  unfold lsF soF soL nmF nmL
  simp only [srtC_eq]
  decide +kernel
theorem me_ab : meF [("a", "b")] = [dS [("a" : Str), "b"]] := by
  have e : meG [("a", "b")] = [[("a" : Str), "b"]] := by
    unfold meG soF soL nmF nmL
    simp only [srtC_eq]
    decide +kernel
  unfold meF
  rw [e]
  exact List.mergeSort_singleton _
theorem ls_0 : lsF [] = [] := by
  unfold lsF nmF nmL
  simp only [srtC_eq]
  decide +kernel
theorem me_0 : meF [] = [] := by
  have e : meG [] = [] := by
    unfold meG nmF nmL
    simp only [srtC_eq]
    decide +kernel
  unfold meF
  rw [e]
  exact List.mergeSort_nil
theorem Gw.has {S S' : List C} {n k : Nat} (g : Gw S S') (h : Has S n k) : Has S' n k := by
  obtain ⟨c, e, p⟩ := h
  exact ⟨c, g.get e, p⟩
theorem law_law : ∀ ds S G, c_law ds S G → fb_law (enOf G) (startS N_law ds S) := by
  rintro ds S G ⟨ns, rfl, hl, hb, rfl, h⟩
  show fb_law (enOf G) ⟨[.val (.lst (ns.map D.int)), .no, .no, .no, .no], []⟩
  unfold fb_law
  refine seq_i fun N hN => for_i fun M hM => ?_
  simp only [V0, V1, V2, V3, V4, V5, V6, V7, V8, V9, V10, V11, V12, V13, V14, V15, V16, V17, V18, V19, V20, V21, V22, V23, V24, V25, V26, V27, V28, V29, V30, V31, enOf, wipeS, unwS, List.getElem?_cons_zero, List.getElem?_cons_succ, List.set_cons_zero, List.set_cons_succ, List.append_nil, List.nil_append, List.cons_append, if_true, if_false, if_pos, exists_eq_left', exists_eq_left, exists_and_left, Option.some.injEq, exists_const, ite_true, ite_false, reduceIte, tyD, List.length_cons, List.length_nil, Nat.reduceAdd, Nat.reduceLeDiff, Nat.reduceLT, Int.cast_ofNat_Int, eq_self, Int.reduceEq, Int.reduceLT, Int.reduceLE, List.length_map]
  rw [cut_take 20]
  generalize hm : (if ((List.map D.int ns).take 20).length > (1 : Int) then (((List.map D.int ns).take 20).length : Int) else 1) = m
  have hm1 : 0 ≤ m ∧ m ≤ 63 := by
    subst hm
    rw [List.length_take, List.length_map]
    split <;> omega
  refine ⟨small62_of (by omega) (by omega), hM _ _ ?_⟩
  obtain ⟨m, rfl⟩ := Int.eq_ofNat_of_zero_le hm1.1
  show loopW _ _ (upI 0 m) _ _
  rw [upI0]
  refine loop_r _ (fun i s => ∃ a b c d S', s = ⟨[.val (.lst (ns.map D.int)), a, b, c, d], S'⟩) ⟨_, _, _, _, _, rfl⟩ ?_ ?_
  · rintro i s hi ⟨a, b, c, d, S1, rfl⟩ P hP
    refine seq_i fun N1 hN1 => ?_
    simp only [V0, V1, V2, V3, V4, V5, V6, V7, V8, V9, V10, V11, V12, V13, V14, V15, V16, V17, V18, V19, V20, V21, V22, V23, V24, V25, V26, V27, V28, V29, V30, V31, enOf, wipeS, unwS, List.getElem?_cons_zero, List.getElem?_cons_succ, List.set_cons_zero, List.set_cons_succ, List.append_nil, List.nil_append, List.cons_append, if_true, if_false, if_pos, exists_eq_left', exists_eq_left, exists_and_left, Option.some.injEq, exists_const, ite_true, ite_false, reduceIte, tyD, List.length_cons, List.length_nil, Nat.reduceAdd, Nat.reduceLeDiff, Nat.reduceLT, Int.cast_ofNat_Int, eq_self, Int.reduceEq, Int.reduceLT, Int.reduceLE]
    refine ⟨ns, i, rfl, hl, by omega, fun pu hpu => ?_⟩
    simp only [V0, V1, V2, V3, V4, V5, V6, V7, V8, V9, V10, V11, V12, V13, V14, V15, V16, V17, V18, V19, V20, V21, V22, V23, V24, V25, V26, V27, V28, V29, V30, V31, enOf, wipeS, unwS, List.getElem?_cons_zero, List.getElem?_cons_succ, List.set_cons_zero, List.set_cons_succ, List.append_nil, List.nil_append, List.cons_append, if_true, if_false, if_pos, exists_eq_left', exists_eq_left, exists_and_left, Option.some.injEq, exists_const, ite_true, ite_false, reduceIte, tyD, List.length_cons, List.length_nil, Nat.reduceAdd, Nat.reduceLeDiff, Nat.reduceLT, Int.cast_ofNat_Int, eq_self, Int.reduceEq, Int.reduceLT, Int.reduceLE]
    refine hN1 _ ?_
    generalize hn : S1.length = n
    have hp : Has (S1 ++ [pu]) n 63000 := hn ▸ Has.new hpu
    generalize S1 ++ [pu] = S2 at hp
    simp only [V0, V1, V2, V3, V4, V5, V6, V7, V8, V9, V10, V11, V12, V13, V14, V15, V16, V17, V18, V19, V20, V21, V22, V23, V24, V25, V26, V27, V28, V29, V30, V31, enOf, wipeS, unwS, List.getElem?_cons_zero, List.getElem?_cons_succ, List.set_cons_zero, List.set_cons_succ, List.append_nil, List.nil_append, List.cons_append, if_true, if_false, if_pos, exists_eq_left', exists_eq_left, exists_and_left, Option.some.injEq, exists_const, ite_true, ite_false, reduceIte, tyD, List.length_cons, List.length_nil, Nat.reduceAdd, Nat.reduceLeDiff, Nat.reduceLT, Int.cast_ofNat_Int, eq_self, Int.reduceEq, Int.reduceLT, Int.reduceLE]
    refine ⟨small62_of (by decide) (by decide), ?_⟩
    rw [upI0]
    refine loop_r _ (fun j s => ∃ e f S', Has S' n (63000 + 12000 * j) ∧ s = ⟨[.val (.lst (ns.map D.int)), .val (.int i), .val (.loc n), e, f], S'⟩) ⟨_, _, _, hp.mono (by omega), rfl⟩ ?_ ?_
    · rintro j s hj ⟨e, f, S3, hs3, rfl⟩ P hP
      have hj : j < 4 := hj
      refine seq_i fun N2 hN2 => ?_
      simp only [V0, V1, V2, V3, V4, V5, V6, V7, V8, V9, V10, V11, V12, V13, V14, V15, V16, V17, V18, V19, V20, V21, V22, V23, V24, V25, V26, V27, V28, V29, V30, V31, enOf, wipeS, unwS, List.getElem?_cons_zero, List.getElem?_cons_succ, List.set_cons_zero, List.set_cons_succ, List.append_nil, List.nil_append, List.cons_append, if_true, if_false, if_pos, exists_eq_left', exists_eq_left, exists_and_left, Option.some.injEq, exists_const, ite_true, ite_false, reduceIte, tyD, List.length_cons, List.length_nil, Nat.reduceAdd, Nat.reduceLeDiff, Nat.reduceLT, Int.cast_ofNat_Int, eq_self, Int.reduceEq, Int.reduceLT, Int.reduceLE]
      refine ⟨n, 5, _, rfl, hs3, by omega, by decide, by decide, fun r1 S4 hr1 hf4 hs4 => ?_⟩
      simp only [V0, V1, V2, V3, V4, V5, V6, V7, V8, V9, V10, V11, V12, V13, V14, V15, V16, V17, V18, V19, V20, V21, V22, V23, V24, V25, V26, V27, V28, V29, V30, V31, enOf, wipeS, unwS, List.getElem?_cons_zero, List.getElem?_cons_succ, List.set_cons_zero, List.set_cons_succ, List.append_nil, List.nil_append, List.cons_append, if_true, if_false, if_pos, exists_eq_left', exists_eq_left, exists_and_left, Option.some.injEq, exists_const, ite_true, ite_false, reduceIte, tyD, List.length_cons, List.length_nil, Nat.reduceAdd, Nat.reduceLeDiff, Nat.reduceLT, Int.cast_ofNat_Int, eq_self, Int.reduceEq, Int.reduceLT, Int.reduceLE]
      refine ⟨n, _, 1 + r1, by simp, by omega, hs4, by omega, fun l S5 w1 w2 w3 w4 w5 hf5 hs5 => ?_⟩
      have hl5 : l.length = 1 + r1 := w4 (by omega)
      simp only [V0, V1, V2, V3, V4, V5, V6, V7, V8, V9, V10, V11, V12, V13, V14, V15, V16, V17, V18, V19, V20, V21, V22, V23, V24, V25, V26, V27, V28, V29, V30, V31, enOf, wipeS, unwS, List.getElem?_cons_zero, List.getElem?_cons_succ, List.set_cons_zero, List.set_cons_succ, List.append_nil, List.nil_append, List.cons_append, if_true, if_false, if_pos, exists_eq_left', exists_eq_left, exists_and_left, Option.some.injEq, exists_const, ite_true, ite_false, reduceIte, tyD, List.length_cons, List.length_nil, Nat.reduceAdd, Nat.reduceLeDiff, Nat.reduceLT, Int.cast_ofNat_Int, eq_self, Int.reduceEq, Int.reduceLT, Int.reduceLE]
      refine hN2 _ ?_
      simp only [V0, V1, V2, V3, V4, V5, V6, V7, V8, V9, V10, V11, V12, V13, V14, V15, V16, V17, V18, V19, V20, V21, V22, V23, V24, V25, V26, V27, V28, V29, V30, V31, enOf, wipeS, unwS, List.getElem?_cons_zero, List.getElem?_cons_succ, List.set_cons_zero, List.set_cons_succ, List.append_nil, List.nil_append, List.cons_append, if_true, if_false, if_pos, exists_eq_left', exists_eq_left, exists_and_left, Option.some.injEq, exists_const, ite_true, ite_false, reduceIte, tyD, List.length_cons, List.length_nil, Nat.reduceAdd, Nat.reduceLeDiff, Nat.reduceLT, Int.cast_ofNat_Int, eq_self, Int.reduceEq, Int.reduceLT, Int.reduceLE]
      refine ⟨n, _, l, 8, rfl, by decide, by omega, w1, hs5, by omega, fun ms S6 m1 m2 hf6 hs6 => ?_⟩
      simp only [V0, V1, V2, V3, V4, V5, V6, V7, V8, V9, V10, V11, V12, V13, V14, V15, V16, V17, V18, V19, V20, V21, V22, V23, V24, V25, V26, V27, V28, V29, V30, V31, enOf, wipeS, unwS, List.getElem?_cons_zero, List.getElem?_cons_succ, List.set_cons_zero, List.set_cons_succ, List.append_nil, List.nil_append, List.cons_append, if_true, if_false, if_pos, exists_eq_left', exists_eq_left, exists_and_left, Option.some.injEq, exists_const, ite_true, ite_false, reduceIte, tyD, List.length_cons, List.length_nil, Nat.reduceAdd, Nat.reduceLeDiff, Nat.reduceLT, Int.cast_ofNat_Int, eq_self, Int.reduceEq, Int.reduceLT, Int.reduceLE]
      refine ⟨ms, rfl, m2, m1, fun S7 gw => ?_⟩
      simp only [V0, V1, V2, V3, V4, V5, V6, V7, V8, V9, V10, V11, V12, V13, V14, V15, V16, V17, V18, V19, V20, V21, V22, V23, V24, V25, V26, V27, V28, V29, V30, V31, enOf, wipeS, unwS, List.getElem?_cons_zero, List.getElem?_cons_succ, List.set_cons_zero, List.set_cons_succ, List.append_nil, List.nil_append, List.cons_append, if_true, if_false, if_pos, exists_eq_left', exists_eq_left, exists_and_left, Option.some.injEq, exists_const, ite_true, ite_false, reduceIte, tyD, List.length_cons, List.length_nil, Nat.reduceAdd, Nat.reduceLeDiff, Nat.reduceLT, Int.cast_ofNat_Int, eq_self, Int.reduceEq, Int.reduceLT, Int.reduceLE]
      exact hP _ ⟨_, _, _, (Gw.has gw hs6).mono (by omega), rfl⟩
    · rintro s ⟨e, f, S3, hs3, rfl⟩
      exact hP _ ⟨_, _, _, _, _, rfl⟩
  · rintro s ⟨a, b, c, d, S1, rfl⟩
    have sc1 : IsScr [(("a" : Str), ("a" : Str))] := by unfold IsScr; decide +kernel
    have sc2 : IsScr [(("a" : Str), ("b" : Str))] := by unfold IsScr; decide +kernel
    have sc0 : IsScr [] := fun _ h => by cases h
    have ly0 : ly 1 (.lst []) := ly_nil
    have lya : ly 1 (.lst [.str "a"]) := ly_dS (l := ["a"]) (by unfold Labs; decide +kernel)
    have lyab : ly 2 (.lst [.lst [.str "a", .str "b"]]) := ly_lst fun d hd => by
      rw [List.mem_singleton.mp hd]
      exact ly_dS (l := ["a", "b"]) (by unfold Labs; decide +kernel)
    refine hN _ ?_
    refine seq_i fun N1 hN1 => ?_
    simp only [V0, V1, V2, V3, V4, V5, V6, V7, V8, V9, V10, V11, V12, V13, V14, V15, V16, V17, V18, V19, V20, V21, V22, V23, V24, V25, V26, V27, V28, V29, V30, V31, enOf, wipeS, unwS, List.getElem?_cons_zero, List.getElem?_cons_succ, List.set_cons_zero, List.set_cons_succ, List.append_nil, List.nil_append, List.cons_append, if_true, if_false, if_pos, exists_eq_left', exists_eq_left, exists_and_left, Option.some.injEq, exists_const, ite_true, ite_false, reduceIte, tyD, List.length_cons, List.length_nil, Nat.reduceAdd, Nat.reduceLeDiff, Nat.reduceLT, Int.cast_ofNat_Int, eq_self, Int.reduceEq, Int.reduceLT, Int.reduceLE]
    refine ⟨[("a", "a")], rfl, by decide, sc1, ?_⟩
    rw [ls_aa]
    simp only [V0, V1, V2, V3, V4, V5, V6, V7, V8, V9, V10, V11, V12, V13, V14, V15, V16, V17, V18, V19, V20, V21, V22, V23, V24, V25, V26, V27, V28, V29, V30, V31, enOf, wipeS, unwS, List.getElem?_cons_zero, List.getElem?_cons_succ, List.set_cons_zero, List.set_cons_succ, List.append_nil, List.nil_append, List.cons_append, if_true, if_false, if_pos, exists_eq_left', exists_eq_left, exists_and_left, Option.some.injEq, exists_const, ite_true, ite_false, reduceIte, tyD, List.length_cons, List.length_nil, Nat.reduceAdd, Nat.reduceLeDiff, Nat.reduceLT, Int.cast_ofNat_Int, eq_self, Int.reduceEq, Int.reduceLT, Int.reduceLE, List.map_nil]
    refine ⟨cmp_ly ly0 ly0, ?_⟩
    rw [eqD_same ly0]
    simp only [V0, V1, V2, V3, V4, V5, V6, V7, V8, V9, V10, V11, V12, V13, V14, V15, V16, V17, V18, V19, V20, V21, V22, V23, V24, V25, V26, V27, V28, V29, V30, V31, enOf, wipeS, unwS, List.getElem?_cons_zero, List.getElem?_cons_succ, List.set_cons_zero, List.set_cons_succ, List.append_nil, List.nil_append, List.cons_append, if_true, if_false, if_pos, exists_eq_left', exists_eq_left, exists_and_left, Option.some.injEq, exists_const, ite_true, ite_false, reduceIte, tyD, List.length_cons, List.length_nil, Nat.reduceAdd, Nat.reduceLeDiff, Nat.reduceLT, Int.cast_ofNat_Int, eq_self, Int.reduceEq, Int.reduceLT, Int.reduceLE]
    refine ⟨[("a", "b")], rfl, by decide, sc2, fun ls S2 gw nd hls hme => ?_⟩
    simp only [V0, V1, V2, V3, V4, V5, V6, V7, V8, V9, V10, V11, V12, V13, V14, V15, V16, V17, V18, V19, V20, V21, V22, V23, V24, V25, V26, V27, V28, V29, V30, V31, enOf, wipeS, unwS, List.getElem?_cons_zero, List.getElem?_cons_succ, List.set_cons_zero, List.set_cons_succ, List.append_nil, List.nil_append, List.cons_append, if_true, if_false, if_pos, exists_eq_left', exists_eq_left, exists_and_left, Option.some.injEq, exists_const, ite_true, ite_false, reduceIte, tyD, List.length_cons, List.length_nil, Nat.reduceAdd, Nat.reduceLeDiff, Nat.reduceLT, Int.cast_ofNat_Int, eq_self, Int.reduceEq, Int.reduceLT, Int.reduceLE]
    rw [List.map_map, show ((rsv S2) ∘ D.loc) = fun n => rsv S2 (.loc n) from rfl, hme, me_ab]
    refine ⟨cmp_ly lyab lyab, ?_⟩
    rw [show eqD (.lst [dS [("a" : Str), "b"]]) (.lst [.lst [.str "a", .str "b"]]) = true from eqD_same lyab]
    simp only [V0, V1, V2, V3, V4, V5, V6, V7, V8, V9, V10, V11, V12, V13, V14, V15, V16, V17, V18, V19, V20, V21, V22, V23, V24, V25, V26, V27, V28, V29, V30, V31, enOf, wipeS, unwS, List.getElem?_cons_zero, List.getElem?_cons_succ, List.set_cons_zero, List.set_cons_succ, List.append_nil, List.nil_append, List.cons_append, if_true, if_false, if_pos, exists_eq_left', exists_eq_left, exists_and_left, Option.some.injEq, exists_const, ite_true, ite_false, reduceIte, tyD, List.length_cons, List.length_nil, Nat.reduceAdd, Nat.reduceLeDiff, Nat.reduceLT, Int.cast_ofNat_Int, eq_self, Int.reduceEq, Int.reduceLT, Int.reduceLE]
    refine ⟨[("a", "b")], rfl, by decide, sc2, ?_⟩
    rw [ls_ab]
    simp only [V0, V1, V2, V3, V4, V5, V6, V7, V8, V9, V10, V11, V12, V13, V14, V15, V16, V17, V18, V19, V20, V21, V22, V23, V24, V25, V26, V27, V28, V29, V30, V31, enOf, wipeS, unwS, List.getElem?_cons_zero, List.getElem?_cons_succ, List.set_cons_zero, List.set_cons_succ, List.append_nil, List.nil_append, List.cons_append, if_true, if_false, if_pos, exists_eq_left', exists_eq_left, exists_and_left, Option.some.injEq, exists_const, ite_true, ite_false, reduceIte, tyD, List.length_cons, List.length_nil, Nat.reduceAdd, Nat.reduceLeDiff, Nat.reduceLT, Int.cast_ofNat_Int, eq_self, Int.reduceEq, Int.reduceLT, Int.reduceLE, List.map_nil, List.map_cons]
    refine ⟨cmp_ly lya lya, ?_⟩
    rw [show eqD (.lst [.str "a"]) (.lst [.str "a"]) = true from eqD_same lya, if_neg (by decide)]
    refine hN1 _ ?_
    simp only [V0, V1, V2, V3, V4, V5, V6, V7, V8, V9, V10, V11, V12, V13, V14, V15, V16, V17, V18, V19, V20, V21, V22, V23, V24, V25, V26, V27, V28, V29, V30, V31, enOf, wipeS, unwS, List.getElem?_cons_zero, List.getElem?_cons_succ, List.set_cons_zero, List.set_cons_succ, List.append_nil, List.nil_append, List.cons_append, if_true, if_false, if_pos, exists_eq_left', exists_eq_left, exists_and_left, Option.some.injEq, exists_const, ite_true, ite_false, reduceIte, tyD, List.length_cons, List.length_nil, Nat.reduceAdd, Nat.reduceLeDiff, Nat.reduceLT, Int.cast_ofNat_Int, eq_self, Int.reduceEq, Int.reduceLT, Int.reduceLE]
    refine ⟨[], rfl, by decide, sc0, ?_⟩
    rw [ls_0]
    simp only [V0, V1, V2, V3, V4, V5, V6, V7, V8, V9, V10, V11, V12, V13, V14, V15, V16, V17, V18, V19, V20, V21, V22, V23, V24, V25, V26, V27, V28, V29, V30, V31, enOf, wipeS, unwS, List.getElem?_cons_zero, List.getElem?_cons_succ, List.set_cons_zero, List.set_cons_succ, List.append_nil, List.nil_append, List.cons_append, if_true, if_false, if_pos, exists_eq_left', exists_eq_left, exists_and_left, Option.some.injEq, exists_const, ite_true, ite_false, reduceIte, tyD, List.length_cons, List.length_nil, Nat.reduceAdd, Nat.reduceLeDiff, Nat.reduceLT, Int.cast_ofNat_Int, eq_self, Int.reduceEq, Int.reduceLT, Int.reduceLE, List.map_nil]
    refine ⟨cmp_ly ly0 ly0, ?_⟩
    rw [eqD_same ly0, if_pos rfl]
    refine ⟨[], rfl, by decide, sc0, fun ls S3 gw nd hls hme => ?_⟩
    simp only [V0, V1, V2, V3, V4, V5, V6, V7, V8, V9, V10, V11, V12, V13, V14, V15, V16, V17, V18, V19, V20, V21, V22, V23, V24, V25, V26, V27, V28, V29, V30, V31, enOf, wipeS, unwS, List.getElem?_cons_zero, List.getElem?_cons_succ, List.set_cons_zero, List.set_cons_succ, List.append_nil, List.nil_append, List.cons_append, if_true, if_false, if_pos, exists_eq_left', exists_eq_left, exists_and_left, Option.some.injEq, exists_const, ite_true, ite_false, reduceIte, tyD, List.length_cons, List.length_nil, Nat.reduceAdd, Nat.reduceLeDiff, Nat.reduceLT, Int.cast_ofNat_Int, eq_self, Int.reduceEq, Int.reduceLT, Int.reduceLE]
    rw [List.map_map, show ((rsv S3) ∘ D.loc) = fun n => rsv S3 (.loc n) from rfl, hme, me_0]
    refine ⟨cmp_ly ly0 ly0, ?_⟩
    rw [eqD_same ly0]
    exact h S3
section
variable {P : Program} {w : World} {K : PySem.W.Frag} {mg : Str → Option Value} {base : Heap}
theorem ok_is_label (T : Txt mg)  {f : Addr} {fd : FuncData} (F : Fun K "is_label" "is_label" st_is_label f fd) (m : mg "is_label" = some (.ref f)) : FnC P w K mg base "is_label" st_is_label ["value"] c_is_label 1 := ⟨f, fd, F, m, fn_ok F sc_is_label len_is_label ⟨fb_is_label, fun _ _ _ _ _ _ hr => ds_is_label T  hr, law_is_label⟩, F.binds fun _ _ _ _ _ _ us hl => match us, hl with | [_], _ => rfl⟩
theorem ok_is_step (T : Txt mg) (F_is_label : FnC P w K mg base "is_label" st_is_label ["value"] c_is_label 1) {f : Addr} {fd : FuncData} (F : Fun K "is_step" "is_step" st_is_step f fd) (m : mg "is_step" = some (.ref f)) : FnC P w K mg base "is_step" st_is_step ["value"] c_is_step 2 := ⟨f, fd, F, m, fn_ok F sc_is_step len_is_step ⟨fb_is_step, fun _ _ _ _ _ _ hr => ds_is_step T F_is_label hr, law_is_step⟩, F.binds fun _ _ _ _ _ _ us hl => match us, hl with | [_], _ => rfl⟩
theorem ok_check_script (T : Txt mg) (F_is_step : FnC P w K mg base "is_step" st_is_step ["value"] c_is_step 2) {f : Addr} {fd : FuncData} (F : Fun K "check_script" "check_script" st_check_script f fd) (m : mg "check_script" = some (.ref f)) : FnC P w K mg base "check_script" st_check_script ["script"] c_check_script 3 := ⟨f, fd, F, m, fn_ok F sc_check_script len_check_script ⟨fb_check_script, fun _ _ _ _ _ _ hr => ds_check_script T F_is_step hr, law_check_script⟩, F.binds fun _ _ _ _ _ _ us hl => match us, hl with | [_], _ => rfl⟩
theorem ok_image_of (T : Txt mg)  {f : Addr} {fd : FuncData} (F : Fun K "image_of" "image_of" st_image_of f fd) (m : mg "image_of" = some (.ref f)) : FnC P w K mg base "image_of" st_image_of ["moves", "label"] c_image_of 1 := ⟨f, fd, F, m, fn_ok F sc_image_of len_image_of ⟨fb_image_of, fun _ _ _ _ _ _ hr => ds_image_of T  hr, law_image_of⟩, F.binds fun _ _ _ _ _ _ us hl => match us, hl with | [_, _], _ => rfl⟩
theorem ok_named (T : Txt mg)  {f : Addr} {fd : FuncData} (F : Fun K "named" "named" st_named f fd) (m : mg "named" = some (.ref f)) : FnC P w K mg base "named" st_named ["moves"] c_named 1 := ⟨f, fd, F, m, fn_ok F sc_named len_named ⟨fb_named, fun _ _ _ _ _ _ hr => ds_named T  hr, law_named⟩, F.binds fun _ _ _ _ _ _ us hl => match us, hl with | [_], _ => rfl⟩
theorem ok_sources (T : Txt mg) (F_named : FnC P w K mg base "named" st_named ["moves"] c_named 1) (F_image_of : FnC P w K mg base "image_of" st_image_of ["moves", "label"] c_image_of 1) {f : Addr} {fd : FuncData} (F : Fun K "sources" "sources" st_sources f fd) (m : mg "sources" = some (.ref f)) : FnC P w K mg base "sources" st_sources ["moves", "label"] c_sources 2 := ⟨f, fd, F, m, fn_ok F sc_sources len_sources ⟨fb_sources, fun _ _ _ _ _ _ hr => ds_sources T F_named F_image_of hr, law_sources⟩, F.binds fun _ _ _ _ _ _ us hl => match us, hl with | [_, _], _ => rfl⟩
theorem ok_lost (T : Txt mg) (F_check_script : FnC P w K mg base "check_script" st_check_script ["script"] c_check_script 3) (F_named : FnC P w K mg base "named" st_named ["moves"] c_named 1) (F_sources : FnC P w K mg base "sources" st_sources ["moves", "label"] c_sources 2) {f : Addr} {fd : FuncData} (F : Fun K "lost" "lost" st_lost f fd) (m : mg "lost" = some (.ref f)) : FnC P w K mg base "lost" st_lost ["moves"] c_lost 4 := ⟨f, fd, F, m, fn_ok F sc_lost len_lost ⟨fb_lost, fun _ _ _ _ _ _ hr => ds_lost T F_check_script F_named F_sources hr, law_lost⟩, F.binds fun _ _ _ _ _ _ us hl => match us, hl with | [_], _ => rfl⟩
theorem ok_melted (T : Txt mg) (F_check_script : FnC P w K mg base "check_script" st_check_script ["script"] c_check_script 3) (F_named : FnC P w K mg base "named" st_named ["moves"] c_named 1) (F_sources : FnC P w K mg base "sources" st_sources ["moves", "label"] c_sources 2) {f : Addr} {fd : FuncData} (F : Fun K "melted" "melted" st_melted f fd) (m : mg "melted" = some (.ref f)) : FnC P w K mg base "melted" st_melted ["moves"] c_melted 4 := ⟨f, fd, F, m, fn_ok F sc_melted len_melted ⟨fb_melted, fun _ _ _ _ _ _ hr => ds_melted T F_check_script F_named F_sources hr, law_melted⟩, F.binds fun _ _ _ _ _ _ us hl => match us, hl with | [_], _ => rfl⟩
theorem ok__law_purse (T : Txt mg)  {f : Addr} {fd : FuncData} (F : Fun K "_law_purse" "_law_purse" st__law_purse f fd) (m : mg "_law_purse" = some (.ref f)) : FnC P w K mg base "_law_purse" st__law_purse ["_law_script_here", "_law_at"] c__law_purse 1 := ⟨f, fd, F, m, fn_ok F sc__law_purse len__law_purse ⟨fb__law_purse, fun _ _ _ _ _ _ hr => ds__law_purse T  hr, law__law_purse⟩, F.binds fun _ _ _ _ _ _ us hl => match us, hl with | [_, _], _ => rfl⟩
theorem ok__law_mixed (T : Txt mg)  {f : Addr} {fd : FuncData} (F : Fun K "_law_mixed" "_law_mixed" st__law_mixed f fd) (m : mg "_law_mixed" = some (.ref f)) : FnC P w K mg base "_law_mixed" st__law_mixed ["_law_seed", "_law_step"] c__law_mixed 1 := ⟨f, fd, F, m, fn_ok F sc__law_mixed len__law_mixed ⟨fb__law_mixed, fun _ _ _ _ _ _ hr => ds__law_mixed T  hr, law__law_mixed⟩, F.binds fun _ _ _ _ _ _ us hl => match us, hl with | [_, _], _ => rfl⟩
theorem ok__law_draw (T : Txt mg) (F__law_mixed : FnC P w K mg base "_law_mixed" st__law_mixed ["_law_seed", "_law_step"] c__law_mixed 1) {f : Addr} {fd : FuncData} (F : Fun K "_law_draw" "_law_draw" st__law_draw f fd) (m : mg "_law_draw" = some (.ref f)) : FnC P w K mg base "_law_draw" st__law_draw ["_law_purse_here", "_law_many"] c__law_draw 2 := ⟨f, fd, F, m, fn_ok F sc__law_draw len__law_draw ⟨fb__law_draw, fun _ _ _ _ _ _ hr => ds__law_draw T F__law_mixed hr, law__law_draw⟩, F.binds fun _ _ _ _ _ _ us hl => match us, hl with | [_, _], _ => rfl⟩
theorem ok__law_one_of (T : Txt mg) (F__law_draw : FnC P w K mg base "_law_draw" st__law_draw ["_law_purse_here", "_law_many"] c__law_draw 2) {f : Addr} {fd : FuncData} (F : Fun K "_law_one_of" "_law_one_of" st__law_one_of f fd) (m : mg "_law_one_of" = some (.ref f)) : FnC P w K mg base "_law_one_of" st__law_one_of ["_law_purse_here", "_law_some"] c__law_one_of 3 := ⟨f, fd, F, m, fn_ok F sc__law_one_of len__law_one_of ⟨fb__law_one_of, fun _ _ _ _ _ _ hr => ds__law_one_of T F__law_draw hr, law__law_one_of⟩, F.binds fun _ _ _ _ _ _ us hl => match us, hl with | [_, _], _ => rfl⟩
theorem ok__law_label (T : Txt mg) (F__law_draw : FnC P w K mg base "_law_draw" st__law_draw ["_law_purse_here", "_law_many"] c__law_draw 2) {f : Addr} {fd : FuncData} (F : Fun K "_law_label" "_law_label" st__law_label f fd) (m : mg "_law_label" = some (.ref f)) : FnC P w K mg base "_law_label" st__law_label ["_law_purse_here"] c__law_label 3 := ⟨f, fd, F, m, fn_ok F sc__law_label len__law_label ⟨fb__law_label, fun _ _ _ _ _ _ hr => ds__law_label T F__law_draw hr, law__law_label⟩, F.binds fun _ _ _ _ _ _ us hl => match us, hl with | [_], _ => rfl⟩
theorem ok__law_labels (T : Txt mg) (F__law_label : FnC P w K mg base "_law_label" st__law_label ["_law_purse_here"] c__law_label 3) {f : Addr} {fd : FuncData} (F : Fun K "_law_labels" "_law_labels" st__law_labels f fd) (m : mg "_law_labels" = some (.ref f)) : FnC P w K mg base "_law_labels" st__law_labels ["_law_purse_here", "_law_many"] c__law_labels 4 := ⟨f, fd, F, m, fn_ok F sc__law_labels len__law_labels ⟨fb__law_labels, fun _ _ _ _ _ _ hr => ds__law_labels T F__law_label hr, law__law_labels⟩, F.binds fun _ _ _ _ _ _ us hl => match us, hl with | [_, _], _ => rfl⟩
theorem ok__law_script (T : Txt mg) (F__law_labels : FnC P w K mg base "_law_labels" st__law_labels ["_law_purse_here", "_law_many"] c__law_labels 4) (F__law_draw : FnC P w K mg base "_law_draw" st__law_draw ["_law_purse_here", "_law_many"] c__law_draw 2) (F__law_one_of : FnC P w K mg base "_law_one_of" st__law_one_of ["_law_purse_here", "_law_some"] c__law_one_of 3) {f : Addr} {fd : FuncData} (F : Fun K "_law_script" "_law_script" st__law_script f fd) (m : mg "_law_script" = some (.ref f)) : FnC P w K mg base "_law_script" st__law_script ["_law_purse_here", "_law_labels_here", "_law_most"] c__law_script 5 := ⟨f, fd, F, m, fn_ok F sc__law_script len__law_script ⟨fb__law_script, fun _ _ _ _ _ _ hr => ds__law_script T F__law_labels F__law_draw F__law_one_of hr, law__law_script⟩, F.binds fun _ _ _ _ _ _ us hl => match us, hl with | [_, _, _], _ => rfl⟩
theorem ok__law_becomes (T : Txt mg)  {f : Addr} {fd : FuncData} (F : Fun K "_law_becomes" "_law_becomes" st__law_becomes f fd) (m : mg "_law_becomes" = some (.ref f)) : FnC P w K mg base "_law_becomes" st__law_becomes ["_law_script_here", "_law_label_here"] c__law_becomes 1 := ⟨f, fd, F, m, fn_ok F sc__law_becomes len__law_becomes ⟨fb__law_becomes, fun _ _ _ _ _ _ hr => ds__law_becomes T  hr, law__law_becomes⟩, F.binds fun _ _ _ _ _ _ us hl => match us, hl with | [_, _], _ => rfl⟩
theorem ok__law_names (T : Txt mg)  {f : Addr} {fd : FuncData} (F : Fun K "_law_names" "_law_names" st__law_names f fd) (m : mg "_law_names" = some (.ref f)) : FnC P w K mg base "_law_names" st__law_names ["_law_script_here"] c__law_names 1 := ⟨f, fd, F, m, fn_ok F sc__law_names len__law_names ⟨fb__law_names, fun _ _ _ _ _ _ hr => ds__law_names T  hr, law__law_names⟩, F.binds fun _ _ _ _ _ _ us hl => match us, hl with | [_], _ => rfl⟩
theorem ok__law_groups (T : Txt mg) (F__law_names : FnC P w K mg base "_law_names" st__law_names ["_law_script_here"] c__law_names 1) (F__law_becomes : FnC P w K mg base "_law_becomes" st__law_becomes ["_law_script_here", "_law_label_here"] c__law_becomes 1) {f : Addr} {fd : FuncData} (F : Fun K "_law_groups" "_law_groups" st__law_groups f fd) (m : mg "_law_groups" = some (.ref f)) : FnC P w K mg base "_law_groups" st__law_groups ["_law_steps"] c__law_groups 2 := ⟨f, fd, F, m, fn_ok F sc__law_groups len__law_groups ⟨fb__law_groups, fun _ _ _ _ _ _ hr => ds__law_groups T F__law_names F__law_becomes hr, law__law_groups⟩, F.binds fun _ _ _ _ _ _ us hl => match us, hl with | [_], _ => rfl⟩
theorem ok__law_right (T : Txt mg) (F__law_groups : FnC P w K mg base "_law_groups" st__law_groups ["_law_steps"] c__law_groups 2) (F_lost : FnC P w K mg base "lost" st_lost ["moves"] c_lost 4) (F_melted : FnC P w K mg base "melted" st_melted ["moves"] c_melted 4) {f : Addr} {fd : FuncData} (F : Fun K "_law_right" "_law_right" st__law_right f fd) (m : mg "_law_right" = some (.ref f)) : FnC P w K mg base "_law_right" st__law_right ["_law_steps"] c__law_right 5 := ⟨f, fd, F, m, fn_ok F sc__law_right len__law_right ⟨fb__law_right, fun _ _ _ _ _ _ hr => ds__law_right T F__law_groups F_lost F_melted hr, law__law_right⟩, F.binds fun _ _ _ _ _ _ us hl => match us, hl with | [_], _ => rfl⟩
theorem ok_law (T : Txt mg) (F__law_purse : FnC P w K mg base "_law_purse" st__law_purse ["_law_script_here", "_law_at"] c__law_purse 1) (F__law_labels : FnC P w K mg base "_law_labels" st__law_labels ["_law_purse_here", "_law_many"] c__law_labels 4) (F__law_draw : FnC P w K mg base "_law_draw" st__law_draw ["_law_purse_here", "_law_many"] c__law_draw 2) (F__law_right : FnC P w K mg base "_law_right" st__law_right ["_law_steps"] c__law_right 5) (F__law_script : FnC P w K mg base "_law_script" st__law_script ["_law_purse_here", "_law_labels_here", "_law_most"] c__law_script 5) (F_lost : FnC P w K mg base "lost" st_lost ["moves"] c_lost 4) (F_melted : FnC P w K mg base "melted" st_melted ["moves"] c_melted 4) {f : Addr} {fd : FuncData} (F : Fun K "law" "law" st_law f fd) (m : mg "law" = some (.ref f)) : FnC P w K mg base "law" st_law ["_law_script_here"] c_law 6 := ⟨f, fd, F, m, fn_ok F sc_law len_law ⟨fb_law, fun _ _ _ _ _ _ hr => ds_law T F__law_purse F__law_labels F__law_draw F__law_right F__law_script F_lost F_melted hr, law_law⟩, F.binds fun _ _ _ _ _ _ us hl => match us, hl with | [_], _ => rfl⟩
end
theorem all_mk {l : PySem.W.OpenLaw} {w : World} {K : PySem.W.Frag} {h : Heap} {mg : Str → Option Value} {fa f_is_label f_is_step f_check_script f_image_of f_named f_sources f_lost f_melted f__law_purse f__law_mixed f__law_draw f__law_one_of f__law_label f__law_labels f__law_script f__law_becomes f__law_names f__law_groups f__law_right f_law : Addr} (X : K.In h) (G : h.Ns mainGlobals mg) (hfa : mg "law" = some (.ref fa))
    {od_is_label an_is_label od_is_step an_is_step od_check_script an_check_script od_image_of an_image_of od_named an_named od_sources an_sources od_lost an_lost od_melted an_melted od__law_purse an__law_purse od__law_mixed an__law_mixed od__law_draw an__law_draw od__law_one_of an__law_one_of od__law_label an__law_label od__law_labels an__law_labels od__law_script an__law_script od__law_becomes an__law_becomes od__law_names an__law_names od__law_groups an__law_groups od__law_right an__law_right od_law an_law : Option Addr} {sl_is_label sl_is_step sl_check_script sl_image_of sl_named sl_sources sl_lost sl_melted sl__law_purse sl__law_mixed sl__law_draw sl__law_one_of sl__law_label sl__law_labels sl__law_script sl__law_becomes sl__law_names sl__law_groups sl__law_right sl_law : Array (Option Value)} {oc_is_label kV_is_label dc_is_label pm_is_label cd_is_label ct_is_label oc_is_step kV_is_step dc_is_step pm_is_step cd_is_step ct_is_step oc_check_script kV_check_script dc_check_script pm_check_script cd_check_script ct_check_script oc_image_of kV_image_of dc_image_of pm_image_of cd_image_of ct_image_of oc_named kV_named dc_named pm_named cd_named ct_named oc_sources kV_sources dc_sources pm_sources cd_sources ct_sources oc_lost kV_lost dc_lost pm_lost cd_lost ct_lost oc_melted kV_melted dc_melted pm_melted cd_melted ct_melted oc__law_purse kV__law_purse dc__law_purse pm__law_purse cd__law_purse ct__law_purse oc__law_mixed kV__law_mixed dc__law_mixed pm__law_mixed cd__law_mixed ct__law_mixed oc__law_draw kV__law_draw dc__law_draw pm__law_draw cd__law_draw ct__law_draw oc__law_one_of kV__law_one_of dc__law_one_of pm__law_one_of cd__law_one_of ct__law_one_of oc__law_label kV__law_label dc__law_label pm__law_label cd__law_label ct__law_label oc__law_labels kV__law_labels dc__law_labels pm__law_labels cd__law_labels ct__law_labels oc__law_script kV__law_script dc__law_script pm__law_script cd__law_script ct__law_script oc__law_becomes kV__law_becomes dc__law_becomes pm__law_becomes cd__law_becomes ct__law_becomes oc__law_names kV__law_names dc__law_names pm__law_names cd__law_names ct__law_names oc__law_groups kV__law_groups dc__law_groups pm__law_groups cd__law_groups ct__law_groups oc__law_right kV__law_right dc__law_right pm__law_right cd__law_right ct__law_right oc_law kV_law dc_law pm_law cd_law ct_law : Value}
    (a_is_label : PySem.W.nsIn K mainGlobals "is_label" = some (some (.ref f_is_label))) (l_is_label : K.lookup f_is_label = some ⟨oc_is_label, od_is_label, .func (PySem.W.fnOf "is_label" "is_label" (defArgs st_is_label) (defBody st_is_label) (defScope st_is_label) .none kV_is_label dc_is_label pm_is_label an_is_label cd_is_label ct_is_label), sl_is_label⟩) (d_is_label : PySem.W.codeIn K cd_is_label "is_label" = true) (k_is_label : PySem.W.keepIn K (.ref f_is_label) = true)
    (a_is_step : PySem.W.nsIn K mainGlobals "is_step" = some (some (.ref f_is_step))) (l_is_step : K.lookup f_is_step = some ⟨oc_is_step, od_is_step, .func (PySem.W.fnOf "is_step" "is_step" (defArgs st_is_step) (defBody st_is_step) (defScope st_is_step) .none kV_is_step dc_is_step pm_is_step an_is_step cd_is_step ct_is_step), sl_is_step⟩) (d_is_step : PySem.W.codeIn K cd_is_step "is_step" = true) (k_is_step : PySem.W.keepIn K (.ref f_is_step) = true)
    (a_check_script : PySem.W.nsIn K mainGlobals "check_script" = some (some (.ref f_check_script))) (l_check_script : K.lookup f_check_script = some ⟨oc_check_script, od_check_script, .func (PySem.W.fnOf "check_script" "check_script" (defArgs st_check_script) (defBody st_check_script) (defScope st_check_script) .none kV_check_script dc_check_script pm_check_script an_check_script cd_check_script ct_check_script), sl_check_script⟩) (d_check_script : PySem.W.codeIn K cd_check_script "check_script" = true) (k_check_script : PySem.W.keepIn K (.ref f_check_script) = true)
    (a_image_of : PySem.W.nsIn K mainGlobals "image_of" = some (some (.ref f_image_of))) (l_image_of : K.lookup f_image_of = some ⟨oc_image_of, od_image_of, .func (PySem.W.fnOf "image_of" "image_of" (defArgs st_image_of) (defBody st_image_of) (defScope st_image_of) .none kV_image_of dc_image_of pm_image_of an_image_of cd_image_of ct_image_of), sl_image_of⟩) (d_image_of : PySem.W.codeIn K cd_image_of "image_of" = true) (k_image_of : PySem.W.keepIn K (.ref f_image_of) = true)
    (a_named : PySem.W.nsIn K mainGlobals "named" = some (some (.ref f_named))) (l_named : K.lookup f_named = some ⟨oc_named, od_named, .func (PySem.W.fnOf "named" "named" (defArgs st_named) (defBody st_named) (defScope st_named) .none kV_named dc_named pm_named an_named cd_named ct_named), sl_named⟩) (d_named : PySem.W.codeIn K cd_named "named" = true) (k_named : PySem.W.keepIn K (.ref f_named) = true)
    (a_sources : PySem.W.nsIn K mainGlobals "sources" = some (some (.ref f_sources))) (l_sources : K.lookup f_sources = some ⟨oc_sources, od_sources, .func (PySem.W.fnOf "sources" "sources" (defArgs st_sources) (defBody st_sources) (defScope st_sources) .none kV_sources dc_sources pm_sources an_sources cd_sources ct_sources), sl_sources⟩) (d_sources : PySem.W.codeIn K cd_sources "sources" = true) (k_sources : PySem.W.keepIn K (.ref f_sources) = true)
    (a_lost : PySem.W.nsIn K mainGlobals "lost" = some (some (.ref f_lost))) (l_lost : K.lookup f_lost = some ⟨oc_lost, od_lost, .func (PySem.W.fnOf "lost" "lost" (defArgs st_lost) (defBody st_lost) (defScope st_lost) .none kV_lost dc_lost pm_lost an_lost cd_lost ct_lost), sl_lost⟩) (d_lost : PySem.W.codeIn K cd_lost "lost" = true) (k_lost : PySem.W.keepIn K (.ref f_lost) = true)
    (a_melted : PySem.W.nsIn K mainGlobals "melted" = some (some (.ref f_melted))) (l_melted : K.lookup f_melted = some ⟨oc_melted, od_melted, .func (PySem.W.fnOf "melted" "melted" (defArgs st_melted) (defBody st_melted) (defScope st_melted) .none kV_melted dc_melted pm_melted an_melted cd_melted ct_melted), sl_melted⟩) (d_melted : PySem.W.codeIn K cd_melted "melted" = true) (k_melted : PySem.W.keepIn K (.ref f_melted) = true)
    (a__law_purse : PySem.W.nsIn K mainGlobals "_law_purse" = some (some (.ref f__law_purse))) (l__law_purse : K.lookup f__law_purse = some ⟨oc__law_purse, od__law_purse, .func (PySem.W.fnOf "_law_purse" "_law_purse" (defArgs st__law_purse) (defBody st__law_purse) (defScope st__law_purse) .none kV__law_purse dc__law_purse pm__law_purse an__law_purse cd__law_purse ct__law_purse), sl__law_purse⟩) (d__law_purse : PySem.W.codeIn K cd__law_purse "_law_purse" = true) (k__law_purse : PySem.W.keepIn K (.ref f__law_purse) = true)
    (a__law_mixed : PySem.W.nsIn K mainGlobals "_law_mixed" = some (some (.ref f__law_mixed))) (l__law_mixed : K.lookup f__law_mixed = some ⟨oc__law_mixed, od__law_mixed, .func (PySem.W.fnOf "_law_mixed" "_law_mixed" (defArgs st__law_mixed) (defBody st__law_mixed) (defScope st__law_mixed) .none kV__law_mixed dc__law_mixed pm__law_mixed an__law_mixed cd__law_mixed ct__law_mixed), sl__law_mixed⟩) (d__law_mixed : PySem.W.codeIn K cd__law_mixed "_law_mixed" = true) (k__law_mixed : PySem.W.keepIn K (.ref f__law_mixed) = true)
    (a__law_draw : PySem.W.nsIn K mainGlobals "_law_draw" = some (some (.ref f__law_draw))) (l__law_draw : K.lookup f__law_draw = some ⟨oc__law_draw, od__law_draw, .func (PySem.W.fnOf "_law_draw" "_law_draw" (defArgs st__law_draw) (defBody st__law_draw) (defScope st__law_draw) .none kV__law_draw dc__law_draw pm__law_draw an__law_draw cd__law_draw ct__law_draw), sl__law_draw⟩) (d__law_draw : PySem.W.codeIn K cd__law_draw "_law_draw" = true) (k__law_draw : PySem.W.keepIn K (.ref f__law_draw) = true)
    (a__law_one_of : PySem.W.nsIn K mainGlobals "_law_one_of" = some (some (.ref f__law_one_of))) (l__law_one_of : K.lookup f__law_one_of = some ⟨oc__law_one_of, od__law_one_of, .func (PySem.W.fnOf "_law_one_of" "_law_one_of" (defArgs st__law_one_of) (defBody st__law_one_of) (defScope st__law_one_of) .none kV__law_one_of dc__law_one_of pm__law_one_of an__law_one_of cd__law_one_of ct__law_one_of), sl__law_one_of⟩) (d__law_one_of : PySem.W.codeIn K cd__law_one_of "_law_one_of" = true) (k__law_one_of : PySem.W.keepIn K (.ref f__law_one_of) = true)
    (a__law_label : PySem.W.nsIn K mainGlobals "_law_label" = some (some (.ref f__law_label))) (l__law_label : K.lookup f__law_label = some ⟨oc__law_label, od__law_label, .func (PySem.W.fnOf "_law_label" "_law_label" (defArgs st__law_label) (defBody st__law_label) (defScope st__law_label) .none kV__law_label dc__law_label pm__law_label an__law_label cd__law_label ct__law_label), sl__law_label⟩) (d__law_label : PySem.W.codeIn K cd__law_label "_law_label" = true) (k__law_label : PySem.W.keepIn K (.ref f__law_label) = true)
    (a__law_labels : PySem.W.nsIn K mainGlobals "_law_labels" = some (some (.ref f__law_labels))) (l__law_labels : K.lookup f__law_labels = some ⟨oc__law_labels, od__law_labels, .func (PySem.W.fnOf "_law_labels" "_law_labels" (defArgs st__law_labels) (defBody st__law_labels) (defScope st__law_labels) .none kV__law_labels dc__law_labels pm__law_labels an__law_labels cd__law_labels ct__law_labels), sl__law_labels⟩) (d__law_labels : PySem.W.codeIn K cd__law_labels "_law_labels" = true) (k__law_labels : PySem.W.keepIn K (.ref f__law_labels) = true)
    (a__law_script : PySem.W.nsIn K mainGlobals "_law_script" = some (some (.ref f__law_script))) (l__law_script : K.lookup f__law_script = some ⟨oc__law_script, od__law_script, .func (PySem.W.fnOf "_law_script" "_law_script" (defArgs st__law_script) (defBody st__law_script) (defScope st__law_script) .none kV__law_script dc__law_script pm__law_script an__law_script cd__law_script ct__law_script), sl__law_script⟩) (d__law_script : PySem.W.codeIn K cd__law_script "_law_script" = true) (k__law_script : PySem.W.keepIn K (.ref f__law_script) = true)
    (a__law_becomes : PySem.W.nsIn K mainGlobals "_law_becomes" = some (some (.ref f__law_becomes))) (l__law_becomes : K.lookup f__law_becomes = some ⟨oc__law_becomes, od__law_becomes, .func (PySem.W.fnOf "_law_becomes" "_law_becomes" (defArgs st__law_becomes) (defBody st__law_becomes) (defScope st__law_becomes) .none kV__law_becomes dc__law_becomes pm__law_becomes an__law_becomes cd__law_becomes ct__law_becomes), sl__law_becomes⟩) (d__law_becomes : PySem.W.codeIn K cd__law_becomes "_law_becomes" = true) (k__law_becomes : PySem.W.keepIn K (.ref f__law_becomes) = true)
    (a__law_names : PySem.W.nsIn K mainGlobals "_law_names" = some (some (.ref f__law_names))) (l__law_names : K.lookup f__law_names = some ⟨oc__law_names, od__law_names, .func (PySem.W.fnOf "_law_names" "_law_names" (defArgs st__law_names) (defBody st__law_names) (defScope st__law_names) .none kV__law_names dc__law_names pm__law_names an__law_names cd__law_names ct__law_names), sl__law_names⟩) (d__law_names : PySem.W.codeIn K cd__law_names "_law_names" = true) (k__law_names : PySem.W.keepIn K (.ref f__law_names) = true)
    (a__law_groups : PySem.W.nsIn K mainGlobals "_law_groups" = some (some (.ref f__law_groups))) (l__law_groups : K.lookup f__law_groups = some ⟨oc__law_groups, od__law_groups, .func (PySem.W.fnOf "_law_groups" "_law_groups" (defArgs st__law_groups) (defBody st__law_groups) (defScope st__law_groups) .none kV__law_groups dc__law_groups pm__law_groups an__law_groups cd__law_groups ct__law_groups), sl__law_groups⟩) (d__law_groups : PySem.W.codeIn K cd__law_groups "_law_groups" = true) (k__law_groups : PySem.W.keepIn K (.ref f__law_groups) = true)
    (a__law_right : PySem.W.nsIn K mainGlobals "_law_right" = some (some (.ref f__law_right))) (l__law_right : K.lookup f__law_right = some ⟨oc__law_right, od__law_right, .func (PySem.W.fnOf "_law_right" "_law_right" (defArgs st__law_right) (defBody st__law_right) (defScope st__law_right) .none kV__law_right dc__law_right pm__law_right an__law_right cd__law_right ct__law_right), sl__law_right⟩) (d__law_right : PySem.W.codeIn K cd__law_right "_law_right" = true) (k__law_right : PySem.W.keepIn K (.ref f__law_right) = true)
    (a_law : PySem.W.nsIn K mainGlobals "law" = some (some (.ref f_law))) (l_law : K.lookup f_law = some ⟨oc_law, od_law, .func (PySem.W.fnOf "law" "law" (defArgs st_law) (defBody st_law) (defScope st_law) .none kV_law dc_law pm_law an_law cd_law ct_law), sl_law⟩) (d_law : PySem.W.codeIn K cd_law "law" = true) (k_law : PySem.W.keepIn K (.ref f_law) = true)
    (z_isinstance : PySem.W.nsIn K mainGlobals "isinstance" = some none)
    (z_str : PySem.W.nsIn K mainGlobals "str" = some none)
    (z_len : PySem.W.nsIn K mainGlobals "len" = some none)
    (z_tuple : PySem.W.nsIn K mainGlobals "tuple" = some none)
    (z_list : PySem.W.nsIn K mainGlobals "list" = some none)
    (z_sorted : PySem.W.nsIn K mainGlobals "sorted" = some none)
    (z_sum : PySem.W.nsIn K mainGlobals "sum" = some none)
    (z_max : PySem.W.nsIn K mainGlobals "max" = some none)
    (z_range : PySem.W.nsIn K mainGlobals "range" = some none)
    (z_set : PySem.W.nsIn K mainGlobals "set" = some none)
    (z_repr : PySem.W.nsIn K mainGlobals "repr" = some none)
    {t_SIGNS : Tok} (y_SIGNS : PySem.W.nsIn K mainGlobals "SIGNS" = some (some (.str "abcdefghijklmnopqrstuvwxyz0123456789-" t_SIGNS)))
    : ∃ fd : FuncData, (∀ (s : Shared) (v : Value), BindsTo s fd ⟨[v], []⟩ [("_law_script_here", v)]) ∧ ∀ base : Heap, K.In base → base.Ns mainGlobals mg → FnG l.prog w K mg base 6 fa fd ["_law_script_here"] (specOf c_law) := by
  have e := hfa.symm.trans (PySem.W.mg_of X G a_law)
  cases e
  have T : Txt mg := ⟨PySem.W.mg_none_of X G z_isinstance, PySem.W.mg_none_of X G z_str, PySem.W.mg_none_of X G z_len, PySem.W.mg_none_of X G z_tuple, PySem.W.mg_none_of X G z_list, PySem.W.mg_none_of X G z_sorted, PySem.W.mg_none_of X G z_sum, PySem.W.mg_none_of X G z_max, PySem.W.mg_none_of X G z_range, PySem.W.mg_none_of X G z_set, PySem.W.mg_none_of X G z_repr, ⟨_, PySem.W.mg_of X G y_SIGNS⟩⟩
  have F_is_label := fun_mk (st := st_is_label) l_is_label d_is_label k_is_label
  have F_is_step := fun_mk (st := st_is_step) l_is_step d_is_step k_is_step
  have F_check_script := fun_mk (st := st_check_script) l_check_script d_check_script k_check_script
  have F_image_of := fun_mk (st := st_image_of) l_image_of d_image_of k_image_of
  have F_named := fun_mk (st := st_named) l_named d_named k_named
  have F_sources := fun_mk (st := st_sources) l_sources d_sources k_sources
  have F_lost := fun_mk (st := st_lost) l_lost d_lost k_lost
  have F_melted := fun_mk (st := st_melted) l_melted d_melted k_melted
  have F__law_purse := fun_mk (st := st__law_purse) l__law_purse d__law_purse k__law_purse
  have F__law_mixed := fun_mk (st := st__law_mixed) l__law_mixed d__law_mixed k__law_mixed
  have F__law_draw := fun_mk (st := st__law_draw) l__law_draw d__law_draw k__law_draw
  have F__law_one_of := fun_mk (st := st__law_one_of) l__law_one_of d__law_one_of k__law_one_of
  have F__law_label := fun_mk (st := st__law_label) l__law_label d__law_label k__law_label
  have F__law_labels := fun_mk (st := st__law_labels) l__law_labels d__law_labels k__law_labels
  have F__law_script := fun_mk (st := st__law_script) l__law_script d__law_script k__law_script
  have F__law_becomes := fun_mk (st := st__law_becomes) l__law_becomes d__law_becomes k__law_becomes
  have F__law_names := fun_mk (st := st__law_names) l__law_names d__law_names k__law_names
  have F__law_groups := fun_mk (st := st__law_groups) l__law_groups d__law_groups k__law_groups
  have F__law_right := fun_mk (st := st__law_right) l__law_right d__law_right k__law_right
  have F_law := fun_mk (st := st_law) l_law d_law k_law
  refine ⟨_, fun s v => BindsTo.of_eq (fd := PySem.W.fnOf "law" "law" (defArgs st_law) (defBody st_law) (defScope st_law) .none kV_law dc_law pm_law an_law cd_law ct_law) rfl, fun base _ _ => ?_⟩
  have C_is_label := ok_is_label (P := l.prog) (w := w) (base := base) T  F_is_label (PySem.W.mg_of X G a_is_label)
  have C_is_step := ok_is_step (P := l.prog) (w := w) (base := base) T C_is_label F_is_step (PySem.W.mg_of X G a_is_step)
  have C_check_script := ok_check_script (P := l.prog) (w := w) (base := base) T C_is_step F_check_script (PySem.W.mg_of X G a_check_script)
  have C_image_of := ok_image_of (P := l.prog) (w := w) (base := base) T  F_image_of (PySem.W.mg_of X G a_image_of)
  have C_named := ok_named (P := l.prog) (w := w) (base := base) T  F_named (PySem.W.mg_of X G a_named)
  have C_sources := ok_sources (P := l.prog) (w := w) (base := base) T C_named C_image_of F_sources (PySem.W.mg_of X G a_sources)
  have C_lost := ok_lost (P := l.prog) (w := w) (base := base) T C_check_script C_named C_sources F_lost (PySem.W.mg_of X G a_lost)
  have C_melted := ok_melted (P := l.prog) (w := w) (base := base) T C_check_script C_named C_sources F_melted (PySem.W.mg_of X G a_melted)
  have C__law_purse := ok__law_purse (P := l.prog) (w := w) (base := base) T  F__law_purse (PySem.W.mg_of X G a__law_purse)
  have C__law_mixed := ok__law_mixed (P := l.prog) (w := w) (base := base) T  F__law_mixed (PySem.W.mg_of X G a__law_mixed)
  have C__law_draw := ok__law_draw (P := l.prog) (w := w) (base := base) T C__law_mixed F__law_draw (PySem.W.mg_of X G a__law_draw)
  have C__law_one_of := ok__law_one_of (P := l.prog) (w := w) (base := base) T C__law_draw F__law_one_of (PySem.W.mg_of X G a__law_one_of)
  have C__law_label := ok__law_label (P := l.prog) (w := w) (base := base) T C__law_draw F__law_label (PySem.W.mg_of X G a__law_label)
  have C__law_labels := ok__law_labels (P := l.prog) (w := w) (base := base) T C__law_label F__law_labels (PySem.W.mg_of X G a__law_labels)
  have C__law_script := ok__law_script (P := l.prog) (w := w) (base := base) T C__law_labels C__law_draw C__law_one_of F__law_script (PySem.W.mg_of X G a__law_script)
  have C__law_becomes := ok__law_becomes (P := l.prog) (w := w) (base := base) T  F__law_becomes (PySem.W.mg_of X G a__law_becomes)
  have C__law_names := ok__law_names (P := l.prog) (w := w) (base := base) T  F__law_names (PySem.W.mg_of X G a__law_names)
  have C__law_groups := ok__law_groups (P := l.prog) (w := w) (base := base) T C__law_names C__law_becomes F__law_groups (PySem.W.mg_of X G a__law_groups)
  have C__law_right := ok__law_right (P := l.prog) (w := w) (base := base) T C__law_groups C_lost C_melted F__law_right (PySem.W.mg_of X G a__law_right)
  exact fn_ok F_law sc_law len_law ⟨fb_law, fun _ _ _ _ _ _ hr => ds_law T C__law_purse C__law_labels C__law_draw C__law_right C__law_script C_lost C_melted hr, law_law⟩
theorem walk {l : PySem.W.OpenLaw} {q : Program} {loose : List Str} {XP : (Str → Option Value) → Heap → Prop} {YP : World → Heap → Prop} {d : DefRec} {K : Params → PySem.W.Frag} (hn : l.most = some 63) (hdf : d.params.defaults = [])
    (hY : ∀ (w : World) (h : Heap), YP w h → (K w.params).In h) (hK : ∀ w : World, noLst (K w.params) = true)
    (F : ∀ (w : World) (mg : Str → Option Value) (fa : Addr) (h : Heap), (K w.params).In h → h.Ns mainGlobals mg → mg d.name = some (.ref fa) →
      ∃ fd : FuncData, (∀ (s : Shared) (u : Value), BindsTo s fd ⟨[u], []⟩ [("_law_script_here", u)]) ∧ ∀ base : Heap, (K w.params).In base → base.Ns mainGlobals mg → FnG l.prog w (K w.params) mg base 6 fa fd ["_law_script_here"] (specOf c_law)) :
    PySem.W.WalkO q loose XP YP l.row.toRowW d [] (fun f vs => PySem.call f vs) :=
  walkG (n := 63) (k := 6) (x := "_law_script_here") (sp := fun _ => specOf c_law) hn (by decide) hdf ⟨⟨rfl, by decide, by decide⟩, rfl⟩ hY F (fun w H a ns hl hb _ hS => script_in (hK w) hS (of_script hl hb))
end Kx
open PySem PySem.W PyProof.Rows
set_option maxRecDepth 100000 in
set_option maxHeartbeats 0 in
theorem PySem.Challenge.cw_relabelsteps_k14_labels_lost_holds : PySem.Challenge.rw_relabelsteps_k14_labels_lost.Holds := by
  w_on; o_law; k_head; (case hw => w_witness2)
  k_fill
  refine Kx.walk (l := PySem.Challenge.rw_relabelsteps_k14_labels_lost) rfl rfl (fun w h Y => PySem.W.kIn_of Y) ?HK ?F
  case HK => exact fun w => Eq.refl true
  case F =>
    intro w mg fa h KX G hmg
    refine' Kx.all_mk KX G hmg ?a_is_label ?l_is_label ?d_is_label ?k_is_label ?a_is_step ?l_is_step ?d_is_step ?k_is_step ?a_check_script ?l_check_script ?d_check_script ?k_check_script ?a_image_of ?l_image_of ?d_image_of ?k_image_of ?a_named ?l_named ?d_named ?k_named ?a_sources ?l_sources ?d_sources ?k_sources ?a_lost ?l_lost ?d_lost ?k_lost ?a_melted ?l_melted ?d_melted ?k_melted ?a__law_purse ?l__law_purse ?d__law_purse ?k__law_purse ?a__law_mixed ?l__law_mixed ?d__law_mixed ?k__law_mixed ?a__law_draw ?l__law_draw ?d__law_draw ?k__law_draw ?a__law_one_of ?l__law_one_of ?d__law_one_of ?k__law_one_of ?a__law_label ?l__law_label ?d__law_label ?k__law_label ?a__law_labels ?l__law_labels ?d__law_labels ?k__law_labels ?a__law_script ?l__law_script ?d__law_script ?k__law_script ?a__law_becomes ?l__law_becomes ?d__law_becomes ?k__law_becomes ?a__law_names ?l__law_names ?d__law_names ?k__law_names ?a__law_groups ?l__law_groups ?d__law_groups ?k__law_groups ?a__law_right ?l__law_right ?d__law_right ?k__law_right ?a_law ?l_law ?d_law ?k_law ?z_isinstance ?z_str ?z_len ?z_tuple ?z_list ?z_sorted ?z_sum ?z_max ?z_range ?z_set ?z_repr ?y_SIGNS
    (case a_is_label => k_is); (case l_is_label => k_is); (case d_is_label => k_is); (case k_is_label => k_is); (case a_is_step => k_is); (case l_is_step => k_is)
    (case d_is_step => k_is); (case k_is_step => k_is); (case a_check_script => k_is); (case l_check_script => k_is); (case d_check_script => k_is); (case k_check_script => k_is)
    (case a_image_of => k_is); (case l_image_of => k_is); (case d_image_of => k_is); (case k_image_of => k_is); (case a_named => k_is); (case l_named => k_is)
    (case d_named => k_is); (case k_named => k_is); (case a_sources => k_is); (case l_sources => k_is); (case d_sources => k_is); (case k_sources => k_is)
    (case a_lost => k_is); (case l_lost => k_is); (case d_lost => k_is); (case k_lost => k_is); (case a_melted => k_is); (case l_melted => k_is)
    (case d_melted => k_is); (case k_melted => k_is); (case a__law_purse => k_is); (case l__law_purse => k_is); (case d__law_purse => k_is); (case k__law_purse => k_is)
    (case a__law_mixed => k_is); (case l__law_mixed => k_is); (case d__law_mixed => k_is); (case k__law_mixed => k_is); (case a__law_draw => k_is); (case l__law_draw => k_is)
    (case d__law_draw => k_is); (case k__law_draw => k_is); (case a__law_one_of => k_is); (case l__law_one_of => k_is); (case d__law_one_of => k_is); (case k__law_one_of => k_is)
    (case a__law_label => k_is); (case l__law_label => k_is); (case d__law_label => k_is); (case k__law_label => k_is); (case a__law_labels => k_is); (case l__law_labels => k_is)
    (case d__law_labels => k_is); (case k__law_labels => k_is); (case a__law_script => k_is); (case l__law_script => k_is); (case d__law_script => k_is); (case k__law_script => k_is)
    (case a__law_becomes => k_is); (case l__law_becomes => k_is); (case d__law_becomes => k_is); (case k__law_becomes => k_is); (case a__law_names => k_is); (case l__law_names => k_is)
    (case d__law_names => k_is); (case k__law_names => k_is); (case a__law_groups => k_is); (case l__law_groups => k_is); (case d__law_groups => k_is); (case k__law_groups => k_is)
    (case a__law_right => k_is); (case l__law_right => k_is); (case d__law_right => k_is); (case k__law_right => k_is); (case a_law => k_is); (case l_law => k_is)
    (case d_law => k_is); (case k_law => k_is); (case z_isinstance => k_is); (case z_str => k_is); (case z_len => k_is); (case z_tuple => k_is)
    (case z_list => k_is); (case z_sorted => k_is); (case z_sum => k_is); (case z_max => k_is); (case z_range => k_is); (case z_set => k_is)
    (case z_repr => k_is); (case y_SIGNS => k_is)

