import PyProof.Rows.All
import Wide.All
import OpenK.AllK
import Wide.FinOn
import HandS.List
import HandS.Comp
import HandS.Dict
import HandS.Iter
import HandS.Text
import HandS.Words
import HandS.Deep
import HandS.Wide
import HandS.TupAny
import HandS.IsInst
import HandS.DictComp
import HandS.WideBits
import HandS.Defaults
import HandS.Style
import HandS.EndBits
import PySem.Challenge.RW_relabelsteps_k63_tables_by_name
set_option Elab.async false
set_option linter.all false
set_option maxRecDepth 100000
/-! the value layer: data, states, what a value stands for -/
namespace Vl
open PySem PySem.Spec L2
open PyProof.Rows hiding St

/-- a value, its parts within -/
inductive D where
  | non | bl (b : Bool) | int (i : Int) | str (x : Str)
  | lst (xs : List D) | tup (xs : List D) | dic (kvs : List (Key × D))
  | loc (n : Nat) | raw (v : V)
/-- a container that may be changed -/
inductive C where
  | lst (xs : List D) | dic (kvs : List (Key × D))
def C.toD : C → D
  | .lst xs => .lst xs
  | .dic kvs => .dic kvs
/-- a slot -/
inductive SV where
  | no | val (d : D) | own (c : C)
/-- the state of a def: its slots, the cells -/
structure SS where
  r : List SV
  S : List C
/-- where things stand: the heap of what stays, the cells' places, the own slots' places -/
structure Wd where
  F : Hp
  cs : List Addr
  os : Nat → Addr

mutual
def Rep (w : Wd) : D → V → Prop
  | .non, v => v = .non
  | .bl b, v => v = .bl b
  | .int i, v => v = .int i
  | .str x, v => v = .str x
  | .lst ds, v => ∃ a vs, v = .ref a ∧ w.F a = some (.lst vs) ∧ RepL w ds vs
  | .tup ds, v => ∃ a vs, v = .ref a ∧ w.F a = some (.tup vs) ∧ RepL w ds vs
  | .dic kvs, v => ∃ a kws, v = .ref a ∧ w.F a = some (.dK kws) ∧ RepK w kvs kws
  | .loc n, v => ∃ a, v = .ref a ∧ w.cs[n]? = some a
  | .raw u, v => v = u
def RepL (w : Wd) : List D → List V → Prop
  | [], vs => vs = []
  | d :: ds, vs => ∃ v us, vs = v :: us ∧ Rep w d v ∧ RepL w ds us
def RepK (w : Wd) : List (Key × D) → List (Key × V) → Prop
  | [], vs => vs = []
  | (k, d) :: ds, vs => ∃ v us, vs = (k, v) :: us ∧ Rep w d v ∧ RepK w ds us
end

/-- nothing that was known is lost -/
structure Ext (w w' : Wd) : Prop where
  F : ∀ (a : Addr) (u : HO), w.F a = some u → w'.F a = some u
  cs : ∀ (n : Nat) (a : Addr), w.cs[n]? = some a → w'.cs[n]? = some a
theorem Ext.refl (w : Wd) : Ext w w := ⟨fun _ _ h => h, fun _ _ h => h⟩
theorem Ext.trans {w1 w2 w3 : Wd} (a : Ext w1 w2) (b : Ext w2 w3) : Ext w1 w3 := ⟨fun x u h => b.F x u (a.F x u h), fun n x h => b.cs n x (a.cs n x h)⟩

mutual
theorem Rep.ext {w w' : Wd} (e : Ext w w') : ∀ (d : D) (v : V), Rep w d v → Rep w' d v
  | .non, _, h => h
  | .bl _, _, h => h
  | .int _, _, h => h
  | .str _, _, h => h
  | .lst ds, _, ⟨a, vs, e1, e2, h⟩ => ⟨a, vs, e1, e.F _ _ e2, RepL.ext e ds vs h⟩
  | .tup ds, _, ⟨a, vs, e1, e2, h⟩ => ⟨a, vs, e1, e.F _ _ e2, RepL.ext e ds vs h⟩
  | .dic ds, _, ⟨a, vs, e1, e2, h⟩ => ⟨a, vs, e1, e.F _ _ e2, RepK.ext e ds vs h⟩
  | .loc n, _, ⟨a, e1, e2⟩ => ⟨a, e1, e.cs _ _ e2⟩
  | .raw _, _, h => h
theorem RepL.ext {w w' : Wd} (e : Ext w w') : ∀ (ds : List D) (vs : List V), RepL w ds vs → RepL w' ds vs
  | [], _, h => h
  | d :: ds, _, ⟨v, us, e1, h1, h2⟩ => ⟨v, us, e1, Rep.ext e d v h1, RepL.ext e ds us h2⟩
theorem RepK.ext {w w' : Wd} (e : Ext w w') : ∀ (ds : List (Key × D)) (vs : List (Key × V)), RepK w ds vs → RepK w' ds vs
  | [], _, h => h
  | (k, d) :: ds, _, ⟨v, us, e1, h1, h2⟩ => ⟨v, us, e1, Rep.ext e d v h1, RepK.ext e ds us h2⟩
end
section
variable {w : Wd}
theorem RepL.length : ∀ {ds : List D} {vs : List V}, RepL w ds vs → vs.length = ds.length
  | [], _, h => by subst h; rfl
  | d :: ds, _, ⟨v, us, e1, h1, h2⟩ => by subst e1; simp [RepL.length h2]
theorem RepL.nil_iff {vs : List V} : RepL w [] vs ↔ vs = [] := Iff.rfl
theorem RepL.cons_iff {d : D} {ds : List D} {vs : List V} : RepL w (d :: ds) vs ↔ ∃ v us, vs = v :: us ∧ Rep w d v ∧ RepL w ds us := Iff.rfl
theorem RepL.append : ∀ {ds es : List D} {vs us : List V}, RepL w ds vs → RepL w es us → RepL w (ds ++ es) (vs ++ us)
  | [], _, _, _, h, h' => by subst h; exact h'
  | d :: ds, _, _, _, ⟨v, ws, e1, h1, h2⟩, h' => by subst e1; exact ⟨v, _, rfl, h1, RepL.append h2 h'⟩
theorem RepL.get : ∀ {ds : List D} {vs : List V} {i : Nat} {d : D}, RepL w ds vs → ds[i]? = some d → ∃ v, vs[i]? = some v ∧ Rep w d v
  | [], _, _, _, _, h => by simp at h
  | d :: ds, _, 0, _, ⟨v, ws, e1, h1, h2⟩, h => by subst e1; simp at h; subst h; exact ⟨v, rfl, h1⟩
  | d :: ds, _, i + 1, _, ⟨v, ws, e1, h1, h2⟩, h => by subst e1; simp at h; obtain ⟨u, e, r⟩ := RepL.get h2 h; exact ⟨u, by simpa using e, r⟩
theorem RepL.getV : ∀ {ds : List D} {vs : List V} {i : Nat} {v : V}, RepL w ds vs → vs[i]? = some v → ∃ d, ds[i]? = some d ∧ Rep w d v
  | [], _, _, _, h, h' => by subst h; simp at h'
  | d :: ds, _, 0, _, ⟨v, ws, e1, h1, h2⟩, h => by subst e1; simp at h; subst h; exact ⟨d, rfl, h1⟩
  | d :: ds, _, i + 1, _, ⟨v, ws, e1, h1, h2⟩, h => by subst e1; simp at h; obtain ⟨u, e, r⟩ := RepL.getV h2 h; exact ⟨u, by simpa using e, r⟩
theorem RepL.take : ∀ (n : Nat) {ds : List D} {vs : List V}, RepL w ds vs → RepL w (ds.take n) (vs.take n)
  | 0, _, _, _ => by simp [RepL]
  | n + 1, [], _, h => by subst h; simp [RepL]
  | n + 1, d :: ds, _, ⟨v, ws, e1, h1, h2⟩ => by subst e1; exact ⟨v, _, rfl, h1, RepL.take n h2⟩
theorem RepL.drop : ∀ (n : Nat) {ds : List D} {vs : List V}, RepL w ds vs → RepL w (ds.drop n) (vs.drop n)
  | 0, _, _, h => h
  | n + 1, [], _, h => by subst h; simp [RepL]
  | n + 1, d :: ds, _, ⟨v, ws, e1, h1, h2⟩ => by subst e1; exact RepL.drop n h2
theorem RepL.set : ∀ (n : Nat) {ds : List D} {vs : List V} {d : D} {v : V}, RepL w ds vs → Rep w d v → RepL w (ds.set n d) (vs.set n v)
  | _, [], _, _, _, h, _ => by subst h; simp [RepL]
  | 0, d :: ds, _, _, _, ⟨v, ws, e1, h1, h2⟩, h => by subst e1; exact ⟨_, _, rfl, h, h2⟩
  | n + 1, d :: ds, _, _, _, ⟨v, ws, e1, h1, h2⟩, h => by subst e1; exact ⟨_, _, rfl, h1, RepL.set n h2 h⟩
theorem RepL.reverse : ∀ {ds : List D} {vs : List V}, RepL w ds vs → RepL w ds.reverse vs.reverse
  | [], _, h => by subst h; simp [RepL]
  | d :: ds, _, ⟨v, ws, e1, h1, h2⟩ => by
    subst e1
    rw [List.reverse_cons, List.reverse_cons]
    exact (RepL.reverse h2).append ⟨v, [], rfl, h1, rfl⟩
theorem RepL.ints : ∀ {ns : List Int} {vs : List V}, RepL w (ns.map D.int) vs → vs = ns.map V.int
  | [], _, h => h
  | n :: ns, _, ⟨v, us, e1, h1, h2⟩ => by subst e1; rw [List.map_cons, RepL.ints h2]; exact congrArg (· :: _) h1
theorem RepL.strs : ∀ {ns : List Str} {vs : List V}, RepL w (ns.map D.str) vs → vs = ns.map V.str
  | [], _, h => h
  | n :: ns, _, ⟨v, us, e1, h1, h2⟩ => by subst e1; rw [List.map_cons, RepL.strs h2]; exact congrArg (· :: _) h1
theorem RepL.of_ints : ∀ (ns : List Int), RepL w (ns.map D.int) (ns.map V.int)
  | [] => rfl
  | n :: ns => ⟨_, _, rfl, rfl, RepL.of_ints ns⟩
theorem RepL.of_strs : ∀ (ns : List Str), RepL w (ns.map D.str) (ns.map V.str)
  | [] => rfl
  | n :: ns => ⟨_, _, rfl, rfl, RepL.of_strs ns⟩
theorem RepK.length : ∀ {ds : List (Key × D)} {vs : List (Key × V)}, RepK w ds vs → vs.length = ds.length
  | [], _, h => by subst h; rfl
  | (k, d) :: ds, _, ⟨v, us, e1, h1, h2⟩ => by subst e1; simp [RepK.length h2]
theorem RepK.keys : ∀ {ds : List (Key × D)} {vs : List (Key × V)}, RepK w ds vs → vs.map (·.1) = ds.map (·.1)
  | [], _, h => by subst h; rfl
  | (k, d) :: ds, _, ⟨v, us, e1, h1, h2⟩ => by subst e1; simp [RepK.keys h2]
end
end Vl
namespace Vl
open PySem PySem.Spec L2
open PyProof.Rows hiding St

/-- what an expression gives: a datum; what an own slot holds; a new container -/
inductive Re where
  | val (d : D) | slo (i : Nat) | new (c : C)

def Cel (w : Wd) (H : Hp) (a : Addr) : C → Prop
  | .lst xs => ∃ vs, H a = some (.lst vs) ∧ RepL w xs vs
  | .dic kvs => ∃ kws, H a = some (.dK kws) ∧ RepK w kvs kws
theorem Cel.ext {w w' : Wd} {H H' : Hp} {a : Addr} {c : C} (e : Ext w w') (h : H' a = H a) (x : Cel w H a c) : Cel w' H' a c := by
  cases c with
  | lst xs => obtain ⟨vs, e1, r⟩ := x; exact ⟨vs, h.trans e1, r.ext e⟩
  | dic kvs => obtain ⟨vs, e1, r⟩ := x; exact ⟨vs, h.trans e1, r.ext e⟩
theorem Cel.there {w : Wd} {H : Hp} {a : Addr} {c : C} (x : Cel w H a c) : ∃ o, H a = some o := by
  cases c with
  | lst xs => obtain ⟨vs, e1, r⟩ := x; exact ⟨_, e1⟩
  | dic kvs => obtain ⟨vs, e1, r⟩ := x; exact ⟨_, e1⟩

/-- B: what stands and stays; R: what is kept apart -/
structure Ok (B : Hp) (R : Addr → Prop) (w : Wd) (σ : St) (H : Hp) (ss : SS) : Prop where
  le : ∀ (a : Addr) (u : HO), w.F a = some u → Rd H a u
  bs : ∀ (b : Addr) (o : HO), B b = some o → H b = some o
  rs : ∀ a : Addr, R a → w.F a = none ∧ a ∉ w.cs ∧ ∃ o, H a = some o
  vl : ∀ (i : Nat) (d : D), ss.r[i]? = some (.val d) → ∃ v, σ[i]? = some (some v) ∧ Rep w d v
  ow : ∀ (i : Nat) (c : C), ss.r[i]? = some (.own c) → σ[i]? = some (some (.ref (w.os i))) ∧ Cel w H (w.os i) c ∧ w.F (w.os i) = none ∧ B (w.os i) = none ∧ ¬ R (w.os i) ∧ w.os i ∉ w.cs
  oi : ∀ (i j : Nat) (c c' : C), ss.r[i]? = some (.own c) → ss.r[j]? = some (.own c') → w.os i = w.os j → i = j
  ce : ∀ (n : Nat) (c : C), ss.S[n]? = some c → ∃ a, w.cs[n]? = some a ∧ Cel w H a c
  cl : w.cs.length = ss.S.length
  cf : ∀ a ∈ w.cs, w.F a = none ∧ B a = none
  cn : w.cs.Nodup
  ln : ss.r.length = σ.length

/-- what a result stands for -/
def RepR (B : Hp) (R : Addr → Prop) (w : Wd) (σ : St) (H : Hp) (ss : SS) : Re → V → Prop
  | .val d, v => Rep w d v
  | .slo i, v => σ[i]? = some (some v)
  | .new c, v => ∃ p, v = .ref p ∧ Cel w H p c ∧ w.F p = none ∧ B p = none ∧ ¬ R p ∧ p ∉ w.cs ∧ ∀ (i : Nat) (c' : C), ss.r[i]? = some (.own c') → w.os i ≠ p

section
variable {B : Hp} {R : Addr → Prop} {w : Wd} {σ : St} {H : Hp} {ss : SS}
theorem rd_some {H : Hp} {a : Addr} {u : HO} (h : Rd H a u) : ∃ o, H a = some o := by
  rcases h with h | ⟨o, h⟩
  · exact ⟨_, h⟩
  · exact ⟨_, h⟩
theorem Ok.fresh (o : Ok B R w σ H ss) {p : Addr} (h : H p = none) : w.F p = none ∧ B p = none ∧ ¬ R p ∧ p ∉ w.cs ∧ ∀ (i : Nat) (c' : C), ss.r[i]? = some (.own c') → w.os i ≠ p := by
  refine ⟨?_, ?_, fun r => ?_, fun m => ?_, fun i c' e z => ?_⟩
  · cases q : w.F p with
    | none => rfl
    | some u => obtain ⟨x, hx⟩ := rd_some (o.le p u q); rw [h] at hx; cases hx
  · cases q : B p with
    | none => rfl
    | some u => have := o.bs p u q; rw [h] at this; cases this
  · obtain ⟨_, _, x, hx⟩ := o.rs p r; rw [h] at hx; cases hx
  · obtain ⟨n, hn, e⟩ := List.getElem_of_mem m
    have hs : n < ss.S.length := by rw [← o.cl]; exact hn
    obtain ⟨a, ha, cc⟩ := o.ce n ss.S[n] (List.getElem?_eq_getElem hs)
    rw [List.getElem?_eq_getElem hn] at ha
    have : a = p := by rw [← e]; exact (Option.some.inj ha).symm
    subst this
    obtain ⟨x, hx⟩ := cc.there
    rw [h] at hx; cases hx
  · obtain ⟨_, cc, _⟩ := o.ow i c' e
    rw [z] at cc
    obtain ⟨x, hx⟩ := cc.there
    rw [h] at hx; cases hx
/-- a heap that has grown by new objects -/
theorem Ok.grow (o : Ok B R w σ H ss) {H' : Hp} (k : ∀ b u, H b = some u → H' b = some u) : Ok B R w σ H' ss := by
  have ks : ∀ {a : Addr} {c : C}, Cel w H a c → Cel w H' a c := fun {a c} x => by
    obtain ⟨u, hu⟩ := x.there
    exact x.ext (Ext.refl w) (by rw [hu]; exact k _ _ hu)
  refine ⟨fun a u h => ?_, fun b u h => k _ _ (o.bs b u h), fun a r => ?_, o.vl, fun i c e => ?_, o.oi, fun n c e => ?_, o.cl, o.cf, o.cn, o.ln⟩
  · rcases o.le a u h with z | ⟨x, z⟩
    · exact .inl (k _ _ z)
    · exact .inr ⟨x, k _ _ z⟩
  · obtain ⟨a1, a2, x, hx⟩ := o.rs a r
    exact ⟨a1, a2, x, k _ _ hx⟩
  · obtain ⟨a1, a2, a3⟩ := o.ow i c e
    exact ⟨a1, ks a2, a3⟩
  · obtain ⟨a, a1, a2⟩ := o.ce n c e
    exact ⟨a, a1, ks a2⟩
theorem ndl {l : List Addr} (h : l.Nodup) {i j : Nat} {a : Addr} (h1 : l[i]? = some a) (h2 : l[j]? = some a) : i = j := by
  obtain ⟨a1, e1⟩ := List.getElem?_eq_some_iff.mp h1
  obtain ⟨a2, e2⟩ := List.getElem?_eq_some_iff.mp h2
  exact (List.getElem_inj h).mp (e1.trans e2.symm)

def frzF (w : Wd) (a : Addr) (u : HO) : Wd := { w with F := upd w.F a u }
theorem frzF.ext {w : Wd} {a : Addr} {u : HO} (h : w.F a = none) : Ext w (frzF w a u) := ⟨fun b x e => by
  show upd w.F a u b = some x
  rw [upd_ne (fun z => by rw [z, h] at e; cases e)]; exact e, fun _ _ e => e⟩
theorem Cel.rep {a : Addr} {c : C} (h : w.F a = none) (x : Cel w H a c) : ∃ u, H a = some u ∧ Rep (frzF w a u) c.toD (.ref a) := by
  cases c with
  | lst xs =>
    obtain ⟨vs, e, r⟩ := x
    exact ⟨_, e, a, vs, rfl, upd_same, r.ext (frzF.ext h)⟩
  | dic kvs =>
    obtain ⟨vs, e, r⟩ := x
    exact ⟨_, e, a, vs, rfl, upd_same, r.ext (frzF.ext h)⟩
/-- a thing at a, nobody's, is known from here on -/
theorem Ok.frz (o : Ok B R w σ H ss) {a : Addr} {u : HO} (hu : H a = some u) (hF : w.F a = none) (hR : ¬ R a) (hc : a ∉ w.cs) (hi : ∀ (i : Nat) (c' : C), ss.r[i]? = some (.own c') → w.os i ≠ a) : Ok B R (frzF w a u) σ H ss := by
  have e := frzF.ext (u := u) hF
  refine ⟨fun b x h => ?_, o.bs, fun b r => ?_, fun i d h => ?_, fun i c h => ?_, o.oi, fun n c h => ?_, o.cl, fun b h => ?_, o.cn, o.ln⟩
  · by_cases q : b = a
    · subst q
      have h : upd w.F b u b = some x := h
      rw [upd_same] at h; cases h; exact .inl hu
    · have h : upd w.F a u b = some x := h
      rw [upd_ne q] at h; exact o.le b x h
  · obtain ⟨a1, a2, a3⟩ := o.rs b r
    exact ⟨by show upd w.F a u b = none; rw [upd_ne (fun z : b = a => hR (z ▸ r))]; exact a1, a2, a3⟩
  · obtain ⟨v, a1, a2⟩ := o.vl i d h
    exact ⟨v, a1, a2.ext e⟩
  · obtain ⟨a1, a2, a3, a4⟩ := o.ow i c h
    exact ⟨a1, a2.ext e rfl, by show upd w.F a u (w.os i) = none; rw [upd_ne (hi i c h)]; exact a3, a4⟩
  · obtain ⟨b, a1, a2⟩ := o.ce n c h
    exact ⟨b, a1, a2.ext e rfl⟩
  · obtain ⟨a1, a2⟩ := o.cf b h
    exact ⟨by show upd w.F a u b = none; rw [upd_ne (fun z : b = a => hc (z ▸ h))]; exact a1, a2⟩
/-- slots may be forgotten or turn from own to known, the state's list changes -/
theorem Ok.slots (o : Ok B R w σ H ss) {r' : List SV} {σ' : St} (hl : r'.length = σ'.length) (hv : ∀ (i : Nat) (d : D), r'[i]? = some (.val d) → ∃ v, σ'[i]? = some (some v) ∧ Rep w d v)
    (ho : ∀ (i : Nat) (c : C), r'[i]? = some (.own c) → ss.r[i]? = some (.own c) ∧ σ'[i]? = σ[i]?) : Ok B R w σ' H { ss with r := r' } :=
  ⟨o.le, o.bs, o.rs, hv, fun i c h => by
    obtain ⟨h1, h2⟩ := ho i c h
    obtain ⟨a1, a2⟩ := o.ow i c h1
    exact ⟨h2.trans a1, a2⟩, fun i j c c' h h' => o.oi i j c c' (ho i c h).1 (ho j c' h').1, o.ce, o.cl, o.cf, o.cn, hl⟩
theorem set_get {α : Type} {l : List α} {i j : Nat} {x y : α} (h : (l.set i x)[j]? = some y) : (j = i ∧ y = x ∧ i < l.length) ∨ (j ≠ i ∧ l[j]? = some y) := by
  by_cases e : i = j
  · subst e
    by_cases q : i < l.length
    · rw [List.getElem?_set_self q] at h; cases h; exact .inl ⟨rfl, rfl, q⟩
    · rw [List.getElem?_eq_none (by simpa using q)] at h; cases h
  · rw [List.getElem?_set_ne e] at h
    exact .inr ⟨fun z => e z.symm, h⟩
theorem Ok.lt (o : Ok B R w σ H ss) {i : Nat} {x : SV} (h : ss.r[i]? = some x) : i < σ.length := by rw [← o.ln]; exact (List.getElem?_eq_some_iff.mp h).1

/-- a result turned into a datum -/
def fz (r : Re) (ss : SS) (k : D → SS → Prop) : Prop :=
  match r with
  | .val d => k d ss
  | .new c => k c.toD ss
  | .slo i => match ss.r[i]? with
    | some (.own c) => k c.toD { ss with r := ss.r.set i (.val c.toD) }
    | some (.val d) => k d ss
    | _ => False
theorem fz_ok (o : Ok B R w σ H ss) {r : Re} {v : V} (h : RepR B R w σ H ss r v) {k : D → SS → Prop} (hk : fz r ss k) : ∃ d ss' w', Ok B R w' σ H ss' ∧ Ext w w' ∧ Rep w' d v ∧ k d ss' := by
  cases r with
  | val d => exact ⟨d, ss, w, o, .refl w, h, hk⟩
  | new c =>
    obtain ⟨p, rfl, x, h1, h2, h3, h4, h5⟩ := h
    obtain ⟨u, hu, rp⟩ := x.rep h1
    exact ⟨_, ss, frzF w p u, o.frz hu h1 h3 h4 h5, frzF.ext h1, rp, hk⟩
  | slo i =>
    have h : σ[i]? = some (some v) := h
    have hk : (match ss.r[i]? with
      | some (.own c) => k c.toD { ss with r := ss.r.set i (.val c.toD) }
      | some (.val d) => k d ss
      | _ => False) := hk
    cases e : ss.r[i]? with
    | none => rw [e] at hk; exact hk.elim
    | some x =>
      rw [e] at hk
      cases x with
      | no => exact hk.elim
      | val d =>
        obtain ⟨v', a1, a2⟩ := o.vl i d e
        rw [h] at a1; cases a1
        exact ⟨d, ss, w, o, .refl w, a2, hk⟩
      | own c =>
        obtain ⟨a1, x, h1, h2, h3, h4⟩ := o.ow i c e
        rw [h] at a1; cases a1
        obtain ⟨u, hu, rp⟩ := x.rep h1
        have ex := frzF.ext (u := u) h1
        -- first the slot is forgotten, then known
        have o1 : Ok B R w σ H { ss with r := ss.r.set i .no } := o.slots (by rw [List.length_set]; exact o.ln) (fun j d q => by
          rcases set_get q with ⟨_, q, _⟩ | ⟨_, q⟩
          · cases q
          · exact o.vl j d q) (fun j c' q => by
          rcases set_get q with ⟨_, q, _⟩ | ⟨_, q⟩
          · cases q
          · exact ⟨q, rfl⟩)
        have o2 := o1.frz hu h1 h3 h4 (fun j c' q z => by
          rcases set_get q with ⟨_, q, _⟩ | ⟨ne, q⟩
          · cases q
          · exact ne (o.oi j i c' c q e z))
        refine ⟨c.toD, { ss with r := ss.r.set i (.val c.toD) }, frzF w (w.os i) u, ?_, ex, rp, hk⟩
        have o3 := o2.slots (r' := ss.r.set i (.val c.toD)) (σ' := σ) (by rw [List.length_set]; exact o.ln) (fun j d q => by
          rcases set_get q with ⟨e1, q, _⟩ | ⟨ne, q⟩
          · cases q; subst e1; exact ⟨_, h, rp⟩
          · obtain ⟨v, b1, b2⟩ := o.vl j d q
            exact ⟨v, b1, b2.ext ex⟩) (fun j c' q => by
          rcases set_get q with ⟨_, q, _⟩ | ⟨ne, q⟩
          · cases q
          · refine ⟨?_, rfl⟩
            show (ss.r.set i .no)[j]? = _
            rw [List.getElem?_set_ne (fun z => ne z.symm)]; exact q)
        exact o3

/-- what a result is at present -/
def vw (r : Re) (ss : SS) (k : D → Prop) : Prop :=
  match r with
  | .val (.loc n) => match ss.S[n]? with
    | some c => k c.toD
    | none => False
  | .val d => k d
  | .new c => k c.toD
  | .slo i => match ss.r[i]? with
    | some (.own c) => k c.toD
    | some (.val (.loc n)) => (match ss.S[n]? with
      | some c => k c.toD
      | none => False)
    | some (.val d) => k d
    | _ => False
/-- .. by its own object and its known parts -/
def RepT (w : Wd) (H : Hp) : D → V → Prop
  | .lst ds, v => ∃ a vs, v = .ref a ∧ Rd H a (.lst vs) ∧ RepL w ds vs
  | .dic ds, v => ∃ a vs, v = .ref a ∧ Rd H a (.dK vs) ∧ RepK w ds vs
  | d, v => Rep w d v
theorem Ok.repT (o : Ok B R w σ H ss) {d : D} {v : V} (h : Rep w d v) : RepT w H d v := by
  cases d with
  | lst ds => obtain ⟨a, vs, e1, e2, r⟩ := h; exact ⟨a, vs, e1, o.le _ _ e2, r⟩
  | dic ds => obtain ⟨a, vs, e1, e2, r⟩ := h; exact ⟨a, vs, e1, o.le _ _ e2, r⟩
  | _ => exact h
theorem Cel.repT {a : Addr} {c : C} (x : Cel w H a c) : RepT w H c.toD (.ref a) := by
  cases c with
  | lst xs => obtain ⟨vs, e, r⟩ := x; exact ⟨a, vs, rfl, .inl e, r⟩
  | dic kvs => obtain ⟨vs, e, r⟩ := x; exact ⟨a, vs, rfl, .inl e, r⟩
theorem vw_val (o : Ok B R w σ H ss) {d : D} {v : V} (h : Rep w d v) {k : D → Prop} (hk : vw (.val d) ss k) : ∃ d', RepT w H d' v ∧ k d' := by
  cases d with
  | loc n =>
    have hk : (match ss.S[n]? with
      | some c => k c.toD
      | none => False) := hk
    cases e : ss.S[n]? with
    | none => rw [e] at hk; exact hk.elim
    | some c =>
      rw [e] at hk
      obtain ⟨a, e1, e2⟩ := h
      obtain ⟨b, b1, b2⟩ := o.ce n c e
      rw [e2] at b1; cases b1
      subst e1
      exact ⟨_, b2.repT, hk⟩
  | non => exact ⟨_, o.repT h, hk⟩
  | bl b => exact ⟨_, o.repT h, hk⟩
  | int i => exact ⟨_, o.repT h, hk⟩
  | str x => exact ⟨_, o.repT h, hk⟩
  | lst xs => exact ⟨_, o.repT h, hk⟩
  | tup xs => exact ⟨_, o.repT h, hk⟩
  | dic kvs => exact ⟨_, o.repT h, hk⟩
  | raw u => exact ⟨_, o.repT h, hk⟩
theorem vw_ok (o : Ok B R w σ H ss) {r : Re} {v : V} (h : RepR B R w σ H ss r v) {k : D → Prop} (hk : vw r ss k) : ∃ d, RepT w H d v ∧ k d := by
  cases r with
  | val d => exact vw_val o h hk
  | new c =>
    obtain ⟨p, rfl, x, _⟩ := h
    exact ⟨_, x.repT, hk⟩
  | slo i =>
    have h : σ[i]? = some (some v) := h
    cases e : ss.r[i]? with
    | none =>
      unfold vw at hk
      simp only [e] at hk
    | some x =>
      cases x with
      | no => unfold vw at hk; simp only [e] at hk
      | own c =>
        unfold vw at hk; simp only [e] at hk
        obtain ⟨a1, x, _⟩ := o.ow i c e
        rw [h] at a1; cases a1
        exact ⟨_, x.repT, hk⟩
      | val d =>
        obtain ⟨v', a1, a2⟩ := o.vl i d e
        rw [h] at a1; cases a1
        refine vw_val o a2 ?_
        cases d with
        | loc n => unfold vw at hk ⊢; simp only [e] at hk; exact hk
        | _ => unfold vw at hk ⊢; simp only [e] at hk; exact hk

/-- a result is held while more is done -/
theorem Ok.hold (o : Ok B R w σ H ss) {r : Re} {v : V} (h : RepR B R w σ H ss r v) : ∃ (B' : Hp) (R' : Addr → Prop), Ok B' R' w σ H ss ∧ (∀ b, B' b = none → B b = none) ∧ (∀ a, R a → R' a) ∧
    ∀ (w2 : Wd) (H2 : Hp) (ss2 : SS), Ok B' R' w2 σ H2 ss2 → Ext w w2 → Ok B R w2 σ H2 ss2 ∧ RepR B R w2 σ H2 ss2 r v := by
  cases r with
  | val d => exact ⟨B, R, o, fun _ h => h, fun _ h => h, fun w2 H2 ss2 o2 e => ⟨o2, h.ext e⟩⟩
  | slo i => exact ⟨B, R, o, fun _ h => h, fun _ h => h, fun w2 H2 ss2 o2 e => ⟨o2, h⟩⟩
  | new c =>
    obtain ⟨p, rfl, x, h1, h2, h3, h4, h5⟩ := h
    obtain ⟨u, hu⟩ := x.there
    refine ⟨upd B p u, fun a => R a ∨ a = p, ⟨o.le, fun b q e => ?_, fun a r => ?_, o.vl, fun i c e => ?_, o.oi, o.ce, o.cl, fun a m => ?_, o.cn, o.ln⟩, fun b z => ?_, fun a r => .inl r, fun w2 H2 ss2 o2 e => ⟨⟨o2.le, fun b q e => ?_, fun a r => o2.rs a (.inl r), o2.vl, fun i c e => ?_, o2.oi, o2.ce, o2.cl, fun a m => ?_, o2.cn, o2.ln⟩, ?_⟩⟩
    · by_cases z : b = p
      · subst z; rw [upd_same] at e; cases e; exact hu
      · rw [upd_ne z] at e; exact o.bs b q e
    · rcases r with r | rfl
      · exact o.rs a r
      · exact ⟨h1, h4, u, hu⟩
    · obtain ⟨a1, a2, a3, a4, a5, a6⟩ := o.ow i c e
      have ne := h5 i c e
      exact ⟨a1, a2, a3, by rw [upd_ne ne]; exact a4, fun z => z.elim a5 ne, a6⟩
    · obtain ⟨a1, a2⟩ := o.cf a m
      exact ⟨a1, by rw [upd_ne (fun z : a = p => h4 (z ▸ m))]; exact a2⟩
    · by_cases q : b = p
      · rw [q, upd_same] at z; cases z
      · rw [upd_ne q] at z; exact z
    · refine o2.bs b q ?_
      rw [upd_ne (fun z => by rw [z, h2] at e; cases e)]; exact e
    · obtain ⟨a1, a2, a3, a4, a5, a6⟩ := o2.ow i c e
      have ne : w2.os i ≠ p := fun z => a5 (.inr z)
      exact ⟨a1, a2, a3, by rw [upd_ne ne] at a4; exact a4, fun z => a5 (.inl z), a6⟩
    · obtain ⟨a1, a2⟩ := o2.cf a m
      refine ⟨a1, ?_⟩
      cases q : B a with
      | none => rfl
      | some x =>
        by_cases z : a = p
        · rw [z, h2] at q; cases q
        · rw [upd_ne z, q] at a2; cases a2
    · obtain ⟨a1, a2, y, hy⟩ := o2.rs p (.inr rfl)
      have hp : H2 p = some u := o2.bs p u upd_same
      refine ⟨p, rfl, x.ext e (hp.trans hu.symm), a1, h2, h3, a2, fun i c' q z => ?_⟩
      obtain ⟨_, _, _, _, a5, _⟩ := o2.ow i c' q
      exact a5 (.inr z)
theorem RepR.weak {B' : Hp} {R' : Addr → Prop} {r : Re} {v : V} (hB : ∀ b, B' b = none → B b = none) (hR : ∀ a, R a → R' a) (h : RepR B' R' w σ H ss r v) : RepR B R w σ H ss r v := by
  cases r with
  | val d => exact h
  | slo i => exact h
  | new c =>
    obtain ⟨p, h0, x0, h1, h2, h3, h4, h5⟩ := h
    exact ⟨p, h0, x0, h1, hB _ h2, fun r => h3 (hR _ r), h4, h5⟩
end
end Vl
namespace Vl
open PySem PySem.Spec L2
open PyProof.Rows hiding St

/-! ### judgements -/
abbrev WE := SS → (Re → SS → Prop) → Prop
abbrev WV := SS → (D → SS → Prop) → Prop
abbrev WT := SS → (Bool → SS → Prop) → Prop
abbrev WA := SS → (List D → SS → Prop) → Prop
def DE (X : Cx) (e : Expr) (f : WE) : Prop := ∃ t, PE X e t ∧ ∀ (B : Hp) (R : Addr → Prop) (w : Wd) (σ : St) (H : Hp) (ss : SS) (G : Re → SS → Prop) (Q : VK), Ok B R w σ H ss → f ss G →
  (∀ v H' r ss' w', Ok B R w' σ H' ss' → RepR B R w' σ H' ss' r v → Ext w w' → G r ss' → Q v H') → t σ H Q
def DV (X : Cx) (e : Expr) (f : WV) : Prop := ∃ t, PE X e t ∧ ∀ (B : Hp) (R : Addr → Prop) (w : Wd) (σ : St) (H : Hp) (ss : SS) (G : D → SS → Prop) (Q : VK), Ok B R w σ H ss → f ss G →
  (∀ v H' d ss' w', Ok B R w' σ H' ss' → Rep w' d v → Ext w w' → G d ss' → Q v H') → t σ H Q
def DT (X : Cx) (e : Expr) (f : WT) : Prop := ∃ t, PT X e t ∧ ∀ (B : Hp) (R : Addr → Prop) (w : Wd) (σ : St) (H : Hp) (ss : SS) (G : Bool → SS → Prop) (Q : Bool → Hp → Prop), Ok B R w σ H ss → f ss G →
  (∀ b H' ss' w', Ok B R w' σ H' ss' → Ext w w' → G b ss' → Q b H') → t σ H Q
def DA (X : Cx) (es : List Expr) (f : WA) : Prop := ∃ t, PA X es t ∧ ∀ (B : Hp) (R : Addr → Prop) (w : Wd) (σ : St) (H : Hp) (ss : SS) (G : List D → SS → Prop) (Q : List V → Hp → Prop), Ok B R w σ H ss → f ss G →
  (∀ vs H' ds ss' w', Ok B R w' σ H' ss' → RepL w' ds vs → Ext w w' → G ds ss' → Q vs H') → t σ H Q

section
variable {X : Cx} {e : Expr}
/-- a datum wanted -/
def fV (f : WE) : WV := fun ss G => f ss fun r ss' => fz r ss' G
theorem dv {f : WE} (h : DE X e f) : DV X e (fV f) := by
  obtain ⟨t, ht, hf⟩ := h
  refine ⟨t, ht, fun B R w σ H ss G Q o hw hq => hf B R w σ H ss _ Q o hw fun v H' r ss' w' o' rr ex hg => ?_⟩
  obtain ⟨d, ss2, w2, o2, ex2, rd, hk⟩ := fz_ok o' rr hg
  exact hq v H' d ss2 w2 o2 rd (ex.trans ex2) hk
/-- .. from a datum -/
def fE (f : WV) : WE := fun ss G => f ss fun d ss' => G (.val d) ss'
theorem de {f : WV} (h : DV X e f) : DE X e (fE f) := by
  obtain ⟨t, ht, hf⟩ := h
  exact ⟨t, ht, fun B R w σ H ss G Q o hw hq => hf B R w σ H ss _ Q o hw fun v H' d ss' w' o' rr ex hg => hq v H' (.val d) ss' w' o' rr ex hg⟩

/-- a new container becomes a cell -/
def toCell (r : Re) (ss : SS) (k : D → SS → Prop) : Prop :=
  match r with
  | .new c => k (.loc ss.S.length) { ss with S := ss.S ++ [c] }
  | r => fz r ss k
theorem celled {B : Hp} {R : Addr → Prop} {w : Wd} {σ : St} {H : Hp} {ss : SS} (o : Ok B R w σ H ss) {r : Re} {v : V} (h : RepR B R w σ H ss r v) {k : D → SS → Prop} (hk : toCell r ss k) :
    ∃ d ss' w', Ok B R w' σ H ss' ∧ Ext w w' ∧ Rep w' d v ∧ k d ss' := by
  cases r with
  | val d => exact fz_ok o h hk
  | slo i => exact fz_ok o h hk
  | new c =>
    obtain ⟨p, rfl, x, h1, h2, h3, h4, h5⟩ := h
    have ex : Ext w { w with cs := w.cs ++ [p] } := ⟨fun _ _ e => e, fun n a e => by
      show (w.cs ++ [p])[n]? = some a
      rw [List.getElem?_append_left (List.getElem?_eq_some_iff.mp e).1]; exact e⟩
    refine ⟨.loc ss.S.length, { ss with S := ss.S ++ [c] }, { w with cs := w.cs ++ [p] }, ⟨o.le, o.bs, fun a r => ?_, fun i d e => ?_, fun i c' e => ?_, o.oi, fun n c' e => ?_, ?_, fun a m => ?_, ?_, o.ln⟩, ex, ⟨p, rfl, ?_⟩, hk⟩
    · obtain ⟨a1, a2, a3⟩ := o.rs a r
      refine ⟨a1, fun m => ?_, a3⟩
      rcases List.mem_append.mp m with m | m
      · exact a2 m
      · have : a = p := by simpa using m
        exact h3 (this ▸ r)
    · obtain ⟨v, a1, a2⟩ := o.vl i d e
      exact ⟨v, a1, a2.ext ex⟩
    · obtain ⟨a1, a2, a3, a4, a5, a6⟩ := o.ow i c' e
      refine ⟨a1, a2.ext ex rfl, a3, a4, a5, fun m => ?_⟩
      rcases List.mem_append.mp m with m | m
      · exact a6 m
      · have : w.os i = p := by simpa using m
        exact h5 i c' e this
    · by_cases q : n < ss.S.length
      · have e : (ss.S ++ [c])[n]? = some c' := e
        rw [List.getElem?_append_left q] at e
        obtain ⟨a, a1, a2⟩ := o.ce n c' e
        exact ⟨a, ex.cs _ _ a1, a2.ext ex rfl⟩
      · have e : (ss.S ++ [c])[n]? = some c' := e
        rw [List.getElem?_append_right (by omega)] at e
        have hn : n - ss.S.length = 0 := by
          have := (List.getElem?_eq_some_iff.mp e).1
          simp at this; omega
        rw [hn] at e
        have e' : c = c' := by simpa using e
        subst e'
        have hn' : n = w.cs.length := by rw [o.cl]; omega
        refine ⟨p, ?_, x.ext ex rfl⟩
        show (w.cs ++ [p])[n]? = some p
        rw [hn']; simp
    · show (w.cs ++ [p]).length = (ss.S ++ [c]).length
      rw [List.length_append, List.length_append, o.cl]; rfl
    · rcases List.mem_append.mp m with m | m
      · exact o.cf a m
      · have : a = p := by simpa using m
        subst this
        exact ⟨h1, h2⟩
    · show (w.cs ++ [p]).Nodup
      rw [List.nodup_append]
      refine ⟨o.cn, by simp, fun a ha b hb => ?_⟩
      have : b = p := by simpa using hb
      subst this
      exact fun z => h4 (z ▸ ha)
    · show (w.cs ++ [p])[ss.S.length]? = some p
      rw [← o.cl]; simp
def fCell (f : WE) : WV := fun ss G => f ss fun r ss' => toCell r ss' G
theorem dv_cell {f : WE} (h : DE X e f) : DV X e (fCell f) := by
  obtain ⟨t, ht, hf⟩ := h
  refine ⟨t, ht, fun B R w σ H ss G Q o hw hq => hf B R w σ H ss _ Q o hw fun v H' r ss' w' o' rr ex hg => ?_⟩
  obtain ⟨d, ss2, w2, o2, ex2, rd, hk⟩ := celled o' rr hg
  exact hq v H' d ss2 w2 o2 rd (ex.trans ex2) hk

/-! ### names and constants -/
def fVar (i : Nat) : WE := fun ss G => match ss.r[i]? with
  | some (.val d) => G (.val d) ss
  | some (.own _) => G (.slo i) ss
  | _ => False
theorem de_name {i : Nat} (h : PE X e (tVar i)) : DE X e (fVar i) := by
  refine ⟨_, h, fun B R w σ H ss G Q o hw hq => ?_⟩
  unfold fVar at hw
  cases q : ss.r[i]? with
  | none => simp only [q] at hw
  | some x =>
    cases x with
    | no => simp only [q] at hw
    | val d =>
      simp only [q] at hw
      obtain ⟨v, a1, a2⟩ := o.vl i d q
      exact ⟨v, a1, hq v H (.val d) ss w o a2 (.refl w) hw⟩
    | own c =>
      simp only [q] at hw
      obtain ⟨a1, _⟩ := o.ow i c q
      exact ⟨_, a1, hq _ H (.slo i) ss w o a1 (.refl w) hw⟩
theorem de_v (i : Nat) {x : Str} {pos : Pos} (hN : X.N[i]? = some x := by rfl) (hv : Vis X.env.scope x := by first | exact Or.inl rfl | exact Or.inr (Or.inl rfl) | exact Or.inr (Or.inr rfl)) (hd : (x == ("__debug__" : Str)) = false := by decide)
    (hcd : (x == ("__classdict__" : Str)) = false := by decide) : DE X (.Name x pos) (fVar i) := de_name (pe_var hN hv hd hcd)
def fCon (d : D) : WE := fun ss G => G (.val d) ss
theorem de_con {d : D} {v : V} (h : PE X e (tC v)) (hr : ∀ w, Rep w d v) : DE X e (fCon d) :=
  ⟨_, h, fun B R w σ H ss G Q o hw hq => hq v H (.val d) ss w o (hr w) (.refl w) hw⟩
theorem de_int {i : Int} {j pos} : DE X (.Constant (.int i) j pos) (fCon (.int i)) := de_con pe_int fun _ => rfl
theorem de_bl {b : Bool} {j pos} : DE X (.Constant (.bool b) j pos) (fCon (.bl b)) := de_con pe_bl fun _ => rfl
theorem de_non {j pos} : DE X (.Constant .none j pos) (fCon .non) := de_con pe_non fun _ => rfl
theorem de_str {x : Str} {j pos} : DE X (.Constant (.str x) j pos) (fCon (.str x)) := de_con pe_str fun _ => rfl
/-- a module's constant text -/
theorem de_gstr {x : Str} {y : Str} {pos : Pos} (hg : Gl X x) (hm : ∃ t, X.mg x = some (.str y t)) (hd : (x == ("__debug__" : Str)) = false := by decide) : DE X (.Name x pos) (fCon (.str y)) := by
  obtain ⟨t, hm⟩ := hm
  exact de_con (v := .str y) (pe_glob hg hm (show RelV (.str y) (.str y t) from ⟨t, rfl⟩) hd) fun _ => rfl

/-! ### two parts -/
def f2 (fa fb : WE) (k : Re → Re → SS → Prop) : SS → Prop := fun ss => fa ss fun a s1 => fb s1 fun b s2 => k a b s2
theorem two {a b : Expr} {fa fb : WE} (ha : DE X a fa) (hb : DE X b fb) : ∃ ta tb, PE X a ta ∧ PE X b tb ∧ ∀ (B : Hp) (R : Addr → Prop) (w : Wd) (σ : St) (H : Hp) (ss : SS) (k : Re → Re → SS → Prop) (Q : V → V → Hp → Prop), Ok B R w σ H ss → f2 fa fb k ss →
    (∀ x y H' r q ss' w', Ok B R w' σ H' ss' → RepR B R w' σ H' ss' r x → RepR B R w' σ H' ss' q y → Ext w w' → k r q ss' → Q x y H') → ta σ H fun x H1 => tb σ H1 fun y H2 => Q x y H2 := by
  obtain ⟨ta, pa, ka⟩ := ha
  obtain ⟨tb, pb, kb⟩ := hb
  refine ⟨ta, tb, pa, pb, fun B R w σ H ss k Q o hw hq => ka B R w σ H ss _ _ o hw fun x H1 r s1 w1 o1 r1 e1 h1 => ?_⟩
  obtain ⟨B', R', o1', hB, hR, back⟩ := o1.hold r1
  refine kb B' R' w1 σ H1 s1 _ _ o1' h1 fun y H2 q s2 w2 o2 r2 e2 h2 => ?_
  obtain ⟨o2', r1'⟩ := back w2 H2 s2 o2 e2
  exact hq x y H2 r q s2 w2 o2' r1' (r2.weak hB hR) (e1.trans e2) h2

end
end Vl
namespace Vl
open PySem PySem.Spec L2
open PyProof.Rows hiding St

/-! ### operators by values -/
/-- the ways an operator may end -/
structure Fin (w : Wd) (H : Hp) (P : Re → Prop) (Q : VK) : Prop where
  old : ∀ (v : V) (d : D), Rep w d v → P (.val d) → Q v H
  new : ∀ (p : Addr) (u : HO) (c : C), H p = none → Cel w (upd H p u) p c → P (.new c) → Q (.ref p) (upd H p u)
  tup : ∀ (p : Addr) (vs : List V) (ds : List D), H p = none → RepL w ds vs → P (.val (.tup ds)) → Q (.ref p) (upd H p (.tup vs))
abbrev Le (w : Wd) (H : Hp) : Prop := ∀ (a : Addr) (u : HO), w.F a = some u → Rd H a u
section
variable {B : Hp} {R : Addr → Prop} {w : Wd} {σ : St} {H : Hp} {ss : SS}
theorem new_ok (o : Ok B R w σ H ss) {p : Addr} {u : HO} {c : C} (hp : H p = none) (hc : Cel w (upd H p u) p c) : Ok B R w σ (upd H p u) ss ∧ RepR B R w σ (upd H p u) ss (.new c) (.ref p) := by
  obtain ⟨h1, h2, h3, h4, h5⟩ := o.fresh hp
  exact ⟨o.grow fun b x e => by rw [upd_ne (ne_of_none e hp)]; exact e, p, rfl, hc, h1, h2, h3, h4, h5⟩
theorem frzd (o : Ok B R w σ H ss) {p : Addr} {u : HO} (hp : H p = none) : Ok B R (frzF w p u) σ (upd H p u) ss ∧ Ext w (frzF w p u) := by
  obtain ⟨h1, h2, h3, h4, h5⟩ := o.fresh hp
  have o1 := o.grow (H' := upd H p u) fun b x e => by rw [upd_ne (ne_of_none e hp)]; exact e
  exact ⟨o1.frz upd_same h1 h3 h4 h5, frzF.ext h1⟩
theorem tup_ok (o : Ok B R w σ H ss) {p : Addr} {vs : List V} {ds : List D} (hp : H p = none) (hr : RepL w ds vs) : Ok B R (frzF w p (.tup vs)) σ (upd H p (.tup vs)) ss ∧ Ext w (frzF w p (.tup vs)) ∧ Rep (frzF w p (.tup vs)) (.tup ds) (.ref p) := by
  obtain ⟨o1, ex⟩ := frzd (u := .tup vs) o hp
  exact ⟨o1, ex, p, vs, rfl, upd_same, hr.ext ex⟩
theorem fin_of (o : Ok B R w σ H ss) {w0 : Wd} (e0 : Ext w0 w) {P : Re → Prop} {G : Re → SS → Prop} {Q : VK} (hP : ∀ r, P r → G r ss) (hq : ∀ v H' r ss' w', Ok B R w' σ H' ss' → RepR B R w' σ H' ss' r v → Ext w0 w' → G r ss' → Q v H') : Fin w H P Q := by
  refine ⟨fun v d r h => hq v H (.val d) ss w o r e0 (hP _ h), fun p u c hp hc h => ?_, fun p vs ds hp hr h => ?_⟩
  · obtain ⟨o2, r2⟩ := new_ok o hp hc
    exact hq _ _ (.new c) ss w o2 r2 e0 (hP _ h)
  · obtain ⟨o2, ex, r2⟩ := tup_ok o hp hr
    exact hq _ _ (.val (.tup ds)) ss _ o2 r2 (e0.trans ex) (hP _ h)
end
abbrev KK := D → D → (Re → Prop) → Prop
def OpX (X : Cx) (r : R2) (k : KK) : Prop := ∀ (w : Wd) (H : Hp) (a b : D) (x y : V) (P : Re → Prop) (Q : VK), Le w H → RepT w H a x → RepT w H b y → k a b P → Fin w H P Q → r x y H Q
section
variable {X : Cx} {a b e : Expr} {pos : Pos} {r : R2} {k : KK} {fa fb : WE}
def fOp (k : KK) (fa fb : WE) : WE := fun ss G => f2 fa fb (fun a b s => vw a s fun a => vw b s fun b => k a b fun d => G d s) ss
theorem op_run {ta tb : TE} (hk : OpX X r k) (h2 : ∀ (B : Hp) (R : Addr → Prop) (w : Wd) (σ : St) (H : Hp) (ss : SS) (k : Re → Re → SS → Prop) (Q : V → V → Hp → Prop), Ok B R w σ H ss → f2 fa fb k ss →
    (∀ x y H' r q ss' w', Ok B R w' σ H' ss' → RepR B R w' σ H' ss' r x → RepR B R w' σ H' ss' q y → Ext w w' → k r q ss' → Q x y H') → ta σ H fun x H1 => tb σ H1 fun y H2 => Q x y H2)
    (B : Hp) (R : Addr → Prop) (w : Wd) (σ : St) (H : Hp) (ss : SS) (G : Re → SS → Prop) (Q : VK) (o : Ok B R w σ H ss) (hw : fOp k fa fb ss G)
    (hq : ∀ v H' r ss' w', Ok B R w' σ H' ss' → RepR B R w' σ H' ss' r v → Ext w w' → G r ss' → Q v H') : tOp r ta tb σ H Q := by
  refine h2 B R w σ H ss _ _ o hw fun x y H' p q s' w' o' r1 r2 ex hk' => ?_
  obtain ⟨a', ra, hk'⟩ := vw_ok o' r1 hk'
  obtain ⟨b', rb, hk'⟩ := vw_ok o' r2 hk'
  exact hk w' H' a' b' x y _ _ o'.le ra rb hk' (fin_of o' ex (fun _ h => h) hq)
theorem de_bin {op : Operator} (ho : OpR X (binaryOp op) r) (hk : OpX X r k) (ha : DE X a fa) (hb : DE X b fb) : DE X (.BinOp a op b pos) (fOp k fa fb) := by
  obtain ⟨ta, tb, pa, pb, h2⟩ := two ha hb
  exact ⟨_, pe_op ho pa pb, op_run hk h2⟩
theorem de_cmp {op : CmpOp} (ho : OpR X (compareOp op) r) (hk : OpX X r k) (hm : behindInMarks op b = false) (ha : DE X a fa) (hb : DE X b fb) : DE X (.Compare a [op] [b] pos) (fOp k fa fb) := by
  obtain ⟨ta, tb, pa, pb, h2⟩ := two ha hb
  exact ⟨_, pe_cmpR ho pa pb hm, op_run hk h2⟩
theorem OpX.or {r' : R2} {k' : KK} (h : OpX X r k) (h' : OpX X r' k') : OpX X (fun x y H Q => r x y H Q ∨ r' x y H Q) (fun a b P => k a b P ∨ k' a b P) := fun w H a b x y P Q le ra rb hk hq =>
  hk.imp (fun z => h w H a b x y P Q le ra rb z hq) fun z => h' w H a b x y P Q le ra rb z hq

/-! ### ints -/
def kI (c : Int → Int → Prop) (g : Int → Int → D) : KK := fun a b P => match a, b with
  | .int i, .int j => c i j ∧ P (.val (g i j))
  | _, _ => False
theorem kI_inv {c : Int → Int → Prop} {g : Int → Int → D} {a b : D} {P : Re → Prop} (h : kI c g a b P) : ∃ i j, a = .int i ∧ b = .int j ∧ c i j ∧ P (.val (g i j)) := by
  unfold kI at h
  split at h
  · exact ⟨_, _, rfl, rfl, h⟩
  · exact h.elim
theorem ox_int {c : Int → Int → Prop} {g : Int → Int → V} {g' : Int → Int → D} (hg : ∀ w i j, Rep w (g' i j) (g i j)) : OpX X (rI c g) (kI c g') := by
  intro w H a b x y P Q le ra rb hk hq
  obtain ⟨i, j, rfl, rfl, hc, hp⟩ := kI_inv hk
  cases (show x = .int i from ra)
  cases (show y = .int j from rb)
  exact ⟨i, j, rfl, rfl, hc, hq.old _ _ (hg w i j) hp⟩
theorem ox_int0 {g : Int → Int → V} {g' : Int → Int → D} (hg : ∀ w i j, Rep w (g' i j) (g i j)) : OpX X (rI0 g) (kI (fun _ _ => True) g') := by
  intro w H a b x y P Q le ra rb hk hq
  obtain ⟨i, j, rfl, rfl, hc, hp⟩ := kI_inv hk
  cases (show x = .int i from ra)
  cases (show y = .int j from rb)
  exact ⟨i, j, rfl, rfl, hq.old _ _ (hg w i j) hp⟩

/-- lists by reading: + and * -/
theorem lstR {X : Cx} {pins : List (Addr × Obj)} {σ : St} {H : Hp} {s : Shared} {l : Addr} {xs : List V} (I : Inv X pins σ H s) (h : Rd H l (.lst xs)) :
    xs.length ≤ sizeLine ∧ ∃ (its : List Value) (n : Nat), Vals xs its ∧ xs.length = its.length ∧ s.heap.get? l = some { cls := .type "list", data := .seq its.toArray n } := by
  obtain ⟨z, its, n, r, e⟩ := h.ok I.hok
  exact ⟨z, its, n, r, r.length, e⟩
def rCatR : R2 := fun x y H Q => ∃ l b xs zs, x = .ref l ∧ y = .ref b ∧ Rd H l (.lst xs) ∧ Rd H b (.lst zs) ∧ xs.length + zs.length ≤ sizeLine ∧ ∀ p, H p = none → Q (.ref p) (upd H p (.lst (xs ++ zs)))
theorem op_catR : OpR X (binaryOp .Add) rCatR := by
  intro pins s σ H x y v u Q I rx ry h
  obtain ⟨l, b, xs, zs, rfl, rfl, hH, hB, hz, q⟩ := h
  cases rx
  cases ry
  obtain ⟨z, its, n, r, hl, e⟩ := lstR I hH
  obtain ⟨z2, its2, n2, r2, hl2, e2⟩ := lstR I hB
  refine PySem.P.add_list e e2 ?_ (by rw [List.size_toArray, List.size_toArray]; omega)
  have ea : its.toArray ++ its2.toArray = (its ++ its2).toArray := by simp
  rw [ea]
  exact ⟨.ref _, _, I.lnew (t' := s.toks) (r.append r2) (by rw [List.length_append]; omega), rfl, q _ I.fresh⟩
def rRepR : R2 := fun x y H Q => ∃ l k xs, x = .ref l ∧ y = .int k ∧ Rd H l (.lst xs) ∧ -(2 ^ 63) ≤ k ∧ k < 2 ^ 63 ∧ xs.length * k.toNat ≤ sizeLine ∧
  ∀ p, H p = none → Q (.ref p) (upd H p (.lst (List.replicate k.toNat xs).flatten))
theorem op_repR : OpR X (binaryOp .Mult) rRepR := by
  intro pins s σ H x y v u Q I rx ry h
  obtain ⟨l, k, xs, rfl, rfl, hH, h1, h2, hz, q⟩ := h
  cases rx
  obtain ⟨t, rfl⟩ := ry
  obtain ⟨z, its, n, r, hl, e⟩ := lstR I hH
  have hlen : its.toArray.size * k.toNat ≤ sizeLine := by rw [List.size_toArray, ← hl]; exact hz
  have hcap : ¬ its.toArray.size * k.toNat > (2 ^ 63 - 1) / 8 := by
    have : (sizeLine : Nat) ≤ (2 ^ 63 - 1) / 8 := by decide
    omega
  have hfit : ¬ (!Builtin.List.listFitsIndex k) = true := by
    rw [fitsIndex_both h1 h2]
    exact Bool.false_ne_true
  have hlong : ¬ Builtin.List.listTooLong (its.toArray.size * k.toNat) = true := by
    rw [notLongL hlen]
    exact Bool.false_ne_true
  have hnew : List.foldl (fun x1 x2 => x1 ++ x2) #[] (List.replicate (if its.toArray.isEmpty = true then 0 else k.toNat) its.toArray) = (List.replicate k.toNat its).flatten.toArray := by
    have f0 : ∀ m : Nat, List.foldl (fun x1 x2 => x1 ++ x2) #[] (List.replicate m its.toArray) = (List.replicate m its).flatten.toArray := fun m => by
      have := foldl_rep its m []
      rw [List.nil_append] at this
      exact this
    rw [f0]
    cases its with
    | nil => simp
    | cons a r' => rw [if_neg (by simp)]
  refine wpAny_binaryOp_repeat_ref (T := "list") (U := "int") (by decide) ⟨_, e, rfl⟩ (fun s' => typeIs_int s' k t) noFill_list_mul F.fills_int_mul F.slot_int_rmul repeat_list F.slot_int_index.lookup
    (call_meets F.slot_int_rmul (typeIs_int s k t) F.entry_int_rmul (F.args_int_rmul_2 _ _) (int___rmul___int_list k t l its.toArray n)
      ⟨e, rfl, ⟨_, e, rfl⟩, call_meets F.slot_list_mul ⟨_, e, rfl⟩ F.entry_list_mul (F.args_list_mul_2 _ _) (AutoListH.list___mul___list_int_3 l its.toArray n k t hfit hcap hlong) ⟨e, ?_⟩⟩)
  rw [hnew]
  exact ⟨.ref _, _, I.lnew (t' := s.toks) (r.rep k.toNat) (by rw [PyProof.Rows.lm_len_rep_flat, Nat.mul_comm]; exact hz), rfl, q _ I.fresh⟩
theorem RepL.rep {w : Wd} {ds : List D} {vs : List V} (h : RepL w ds vs) : ∀ n : Nat, RepL w (List.replicate n ds).flatten (List.replicate n vs).flatten
  | 0 => rfl
  | n + 1 => by rw [List.replicate_succ, List.replicate_succ, List.flatten_cons, List.flatten_cons]; exact h.append (RepL.rep h n)

/-- + -/
def kAdd : KK := fun a b P => match a, b with
  | .int i, .int j => P (.val (.int (i + j)))
  | .str x, .str y => x.length + y.length ≤ sizeLine ∧ P (.val (.str (x ++ y)))
  | .lst xs, .lst ys => xs.length + ys.length ≤ sizeLine ∧ P (.new (.lst (xs ++ ys)))
  | .tup xs, .tup ys => xs.length + ys.length ≤ sizeLine ∧ P (.val (.tup (xs ++ ys)))
  | _, _ => False
def rAddA (K : PySem.W.Frag) : R2 := fun x y H Q => (rI0 fun i j => .int (i + j)) x y H Q ∨ (∃ i j, x = .str i ∧ y = .str j ∧ i.length + j.length ≤ sizeLine ∧ Q (.str (i ++ j)) H) ∨ rCatR x y H Q ∨ rCatA K x y H Q
theorem op_addA : OpR X (binaryOp .Add) (rAddA X.K) := op_add.or (op_add_str.or (op_catR.or op_catA))
theorem rep_len {w : Wd} {ds es : List D} {vs us : List V} (h1 : RepL w ds vs) (h2 : RepL w es us) (h : ds.length + es.length ≤ sizeLine) : vs.length + us.length ≤ sizeLine := by
  rw [h1.length, h2.length]; exact h
theorem ox_add : OpX X (rAddA X.K) kAdd := by
  intro w H a b x y P Q le ra rb hk hq
  unfold kAdd at hk
  split at hk
  · cases (show x = .int _ from ra)
    cases (show y = .int _ from rb)
    exact .inl ⟨_, _, rfl, rfl, hq.old _ _ (show Rep w (.int _) (.int _) from rfl) hk⟩
  · cases (show x = .str _ from ra)
    cases (show y = .str _ from rb)
    exact .inr (.inl ⟨_, _, rfl, rfl, hk.1, hq.old _ _ (show Rep w (.str _) (.str _) from rfl) hk.2⟩)
  · obtain ⟨l, vs, rfl, h1, h2⟩ := (show ∃ a vs, x = .ref a ∧ Rd H a (.lst vs) ∧ RepL w _ vs from ra)
    obtain ⟨m, us, rfl, g1, g2⟩ := (show ∃ a vs, y = .ref a ∧ Rd H a (.lst vs) ∧ RepL w _ vs from rb)
    exact .inr (.inr (.inl ⟨l, m, vs, us, rfl, rfl, h1, g1, rep_len h2 g2 hk.1, fun p hp => hq.new p _ (.lst _) hp ⟨_, upd_same, h2.append g2⟩ hk.2⟩))
  · obtain ⟨l, vs, rfl, h1, h2⟩ := (show ∃ a vs, x = .ref a ∧ w.F a = some (.tup vs) ∧ RepL w _ vs from ra)
    obtain ⟨m, us, rfl, g1, g2⟩ := (show ∃ a vs, y = .ref a ∧ w.F a = some (.tup vs) ∧ RepL w _ vs from rb)
    rename_i xs ys
    refine .inr (.inr (.inr ⟨l, m, vs, us, rfl, rfl, .inl (le _ _ h1), .inl (le _ _ g1), rep_len h2 g2 hk.1, fun e => ?_, fun e1 e2 => ?_, fun e1 e2 p hp => ?_⟩))
    · have : xs = [] := by have := h2.length; rw [e] at this; exact List.eq_nil_of_length_eq_zero this.symm
      subst this
      exact hq.old _ (.tup ys) ⟨m, us, rfl, g1, g2⟩ hk.2
    · have : ys = [] := by have := g2.length; rw [e2] at this; exact List.eq_nil_of_length_eq_zero this.symm
      subst this
      exact hq.old _ (.tup xs) ⟨l, vs, rfl, h1, h2⟩ (by have := hk.2; rw [List.append_nil] at this; exact this)
    · exact hq.tup p _ _ hp (h2.append g2) hk.2
  · exact hk.elim
def kSub : KK := kI (fun _ _ => True) fun i j => .int (i - j)
theorem ox_sub : OpX X (rI0 fun i j => .int (i - j)) kSub := ox_int0 fun _ _ _ => rfl
def kMod : KK := kI (fun _ j => 0 < j) fun i j => .int (i % j)
theorem ox_mod : OpX X (rI (fun _ j => 0 < j) fun i j => .int (i % j)) kMod := ox_int fun _ _ _ => rfl
def kDiv : KK := kI CDivW fun i j => .int (i / j)
theorem ox_div : OpX X (rI CDivW fun i j => .int (i / j)) kDiv := ox_int fun _ _ _ => rfl
theorem op_powA : OpR X (binaryOp .Pow) (rI (fun i j => 0 ≤ j ∧ (Builtin.Int.intBits i : Int) * j ≤ 2 ^ 27) fun i j => .int (i ^ j.toNat)) := opI fun _ _ _ _ _ _ _ hc q => pow_int hc.1 hc.2 q
def kPow : KK := kI (fun i j => 0 ≤ j ∧ (Builtin.Int.intBits i : Int) * j ≤ 2 ^ 27) fun i j => .int (i ^ j.toNat)
theorem ox_pow : OpX X (rI (fun i j => 0 ≤ j ∧ (Builtin.Int.intBits i : Int) * j ≤ 2 ^ 27) fun i j => .int (i ^ j.toNat)) kPow := ox_int fun _ _ _ => rfl
/-- * -/
def rMulS : R2 := fun x y H Q => ∃ z n, x = .str z ∧ y = .int n ∧ MulOk z n ∧ Q (.str (Txt.mul z n)) H
theorem op_mulS : OpR X (binaryOp .Mult) rMulS := by
  intro pins s σ H x y v u Q I rx ry h
  obtain ⟨z, n, rfl, rfl, hc, q⟩ := h
  obtain ⟨t, rfl⟩ := rx
  obtain ⟨t', rfl⟩ := ry
  exact SB.mul hc fun t' k => ⟨.str _, H, I.tok _, ⟨_, rfl⟩, q⟩
def kMul : KK := fun a b P => match a, b with
  | .int i, .int j => IntMulOk i j ∧ P (.val (.int (i * j)))
  | .str x, .int j => MulOk x j ∧ P (.val (.str (Txt.mul x j)))
  | .lst xs, .int j => (-(2 ^ 63) ≤ j ∧ j < 2 ^ 63 ∧ xs.length * j.toNat ≤ sizeLine) ∧ P (.new (.lst (List.replicate j.toNat xs).flatten))
  | _, _ => False
def rMulA : R2 := fun x y H Q => (rI IntMulOk fun i j => .int (i * j)) x y H Q ∨ rMulS x y H Q ∨ rRepR x y H Q
theorem op_mulI : OpR X (binaryOp .Mult) (rI IntMulOk fun i j => .int (i * j)) := opI fun _ _ _ _ _ _ _ hc q => mul_int q hc
theorem op_mulA : OpR X (binaryOp .Mult) rMulA := op_mulI.or (op_mulS.or op_repR)
theorem ox_mul : OpX X rMulA kMul := by
  intro w H a b x y P Q le ra rb hk hq
  unfold kMul at hk
  split at hk
  · cases (show x = .int _ from ra)
    cases (show y = .int _ from rb)
    exact .inl ⟨_, _, rfl, rfl, hk.1, hq.old _ _ (show Rep w (.int _) (.int _) from rfl) hk.2⟩
  · cases (show x = .str _ from ra)
    cases (show y = .int _ from rb)
    exact .inr (.inl ⟨_, _, rfl, rfl, hk.1, hq.old _ _ (show Rep w (.str _) (.str _) from rfl) hk.2⟩)
  · obtain ⟨l, vs, rfl, h1, h2⟩ := (show ∃ a vs, x = .ref a ∧ Rd H a (.lst vs) ∧ RepL w _ vs from ra)
    cases (show y = .int _ from rb)
    exact .inr (.inr ⟨l, _, vs, rfl, rfl, h1, hk.1.1, hk.1.2.1, by rw [h2.length]; exact hk.1.2.2, fun p hp => hq.new p _ (.lst _) hp ⟨_, upd_same, h2.rep _⟩ hk.2⟩)
  · exact hk.elim
end
end Vl
namespace Vl
open PySem PySem.Spec L2
open PyProof.Rows hiding St

/-! ### data as the library's -/
mutual
def toPy : D → PyData
  | .non => .none
  | .bl b => .bool b
  | .int i => .int i
  | .str x => .str x
  | .lst xs => .list (toPyL xs)
  | .tup xs => .tuple (toPyL xs)
  | .dic _ => .dict []
  | .loc _ => .dict []
  | .raw _ => .dict []
def toPyL : List D → List PyData
  | [] => []
  | d :: ds => toPy d :: toPyL ds
end
theorem toPyL_map : ∀ ds : List D, toPyL ds = ds.map toPy
  | [] => rfl
  | d :: ds => by rw [toPyL, List.map_cons, toPyL_map ds]
mutual
theorem rep_dp {K : PySem.W.Frag} {w : Wd} {H : Hp} (le : Le w H) : ∀ (d : D) (v : V), Rep w d v → (toPy d).canLay0 = true → Dp K H v (toPy d)
  | .non, v, h, _ => by cases (show v = .non from h); exact .non
  | .bl b, v, h, _ => by cases (show v = .bl b from h); exact .bl b
  | .int i, v, h, _ => by cases (show v = .int i from h); exact .int i
  | .str x, v, h, _ => by cases (show v = .str x from h); exact .str x
  | .lst ds, v, ⟨a, vs, e1, e2, r⟩, z => by subst e1; exact .lst (.inl (le _ _ e2)) (repL_dp le ds vs r z)
  | .tup ds, v, ⟨a, vs, e1, e2, r⟩, z => by subst e1; exact .tup (.inl (le _ _ e2)) (repL_dp le ds vs r z)
  | .dic _, _, _, z => by cases z
  | .loc _, _, _, z => by cases z
  | .raw _, _, _, z => by cases z
theorem repL_dp {K : PySem.W.Frag} {w : Wd} {H : Hp} (le : Le w H) : ∀ (ds : List D) (vs : List V), RepL w ds vs → PyData.canLayAll0 (toPyL ds) = true → DpAll K H vs (toPyL ds)
  | [], vs, h, _ => by subst h; exact .nil
  | d :: ds, _, ⟨v, us, e1, h1, h2⟩, z => by
    subst e1
    have z' : (toPy d).canLay0 = true ∧ PyData.canLayAll0 (toPyL ds) = true := by
      have q : ((toPy d).canLay0 && PyData.canLayAll0 (toPyL ds)) = true := z
      simpa using q
    exact .cons (rep_dp le d v h1 z'.1) (repL_dp le ds us h2 z'.2)
end
theorem repT_dp {K : PySem.W.Frag} {w : Wd} {H : Hp} (le : Le w H) {d : D} {v : V} (h : RepT w H d v) (z : (toPy d).canLay0 = true) : Dp K H v (toPy d) := by
  cases d with
  | lst ds => obtain ⟨a, vs, e1, e2, r⟩ := h; subst e1; exact .lst (.inl e2) (repL_dp le ds vs r z)
  | dic ds => cases z
  | non => exact rep_dp le _ v h z
  | bl _ => exact rep_dp le _ v h z
  | int _ => exact rep_dp le _ v h z
  | str _ => exact rep_dp le _ v h z
  | tup _ => exact rep_dp le _ v h z
  | loc _ => exact rep_dp le _ v h z
  | raw _ => exact rep_dp le _ v h z
/-- plain data of small depth -/
def shp (d : D) : Bool := SeqAt.shaped (toPy d)
def eqD (a b : D) : Bool := PyData.eqv (toPy a) (toPy b)
theorem shp_lay {d : D} (h : shp d = true) : (toPy d).canLay0 = true := SeqAt.canLay_of_shaped h

def flatD : D → Bool
  | .non | .bl _ | .int _ | .str _ => true
  | _ => false
section
variable {X : Cx} {a b c e : Expr} {pos : Pos} {fa fb fc : WE}
def scD : D → D → Bool
  | .non, .non | .non, .int _ | .int _, .non | .non, .bl _ | .bl _, .non | .non, .str _ | .str _, .non => true
  | .int _, .int _ | .bl _, .bl _ | .str _, .str _ | .int _, .str _ | .str _, .int _ | .bl _, .str _ | .str _, .bl _ => true
  | _, _ => false
/-- what == tells apart -/
def cmpOk (a b : D) : Prop := scD a b = true ∨ (shp a = true ∧ shp b = true)
theorem scD_rep {w : Wd} {a b : D} {x y : V} (h : scD a b = true) (ra : Rep w a x) (rb : Rep w b y) : scal x y = true ∧ decide (x = y) = eqD a b := by
  cases a <;> cases b <;> first | (cases h; done) | skip
  all_goals (cases ra; cases rb; refine ⟨rfl, ?_⟩; rw [Bool.eq_iff_iff]; simp [eqD, toPy, PyData.eqv])
theorem scD_flat {a b : D} (h : scD a b = true) : flatD a = true ∧ flatD b = true := by
  cases a <;> cases b <;> first | (cases h; done) | exact ⟨rfl, rfl⟩
theorem flat_repT {w : Wd} {H : Hp} {a : D} {x : V} (h : flatD a = true) (r : RepT w H a x) : Rep w a x := by
  cases a <;> first | exact r | cases h
def kEq : KK := fun a b P => cmpOk a b ∧ P (.val (.bl (eqD a b)))
def kNe : KK := fun a b P => cmpOk a b ∧ P (.val (.bl (!eqD a b)))
def rEqA (K : PySem.W.Frag) : R2 := fun x y H Q => rEq x y H Q ∨ rEqD K x y H Q
def rNeA (K : PySem.W.Frag) : R2 := fun x y H Q => rNe x y H Q ∨ rNeD K x y H Q
theorem ox_eq : OpX X (rEqA X.K) kEq := fun w H a b x y P Q le ra rb hk hq => by
  rcases hk.1 with h | ⟨s1, s2⟩
  · obtain ⟨f1, f2⟩ := scD_flat h
    obtain ⟨g1, g2⟩ := scD_rep h (flat_repT f1 ra) (flat_repT f2 rb)
    exact .inl ⟨g1, by rw [g2]; exact hq.old _ (.bl _) rfl hk.2⟩
  · exact .inr ⟨_, _, repT_dp le ra (shp_lay s1), repT_dp le rb (shp_lay s2), s1, s2, hq.old _ (.bl _) rfl hk.2⟩
theorem ox_ne : OpX X (rNeA X.K) kNe := fun w H a b x y P Q le ra rb hk hq => by
  rcases hk.1 with h | ⟨s1, s2⟩
  · obtain ⟨f1, f2⟩ := scD_flat h
    obtain ⟨g1, g2⟩ := scD_rep h (flat_repT f1 ra) (flat_repT f2 rb)
    exact .inl ⟨g1, by rw [g2]; exact hq.old _ (.bl _) rfl hk.2⟩
  · exact .inr ⟨_, _, repT_dp le ra (shp_lay s1), repT_dp le rb (shp_lay s2), s1, s2, hq.old _ (.bl _) rfl hk.2⟩
theorem de_eq (hu : X.A.units + 64 < cLine) (ha : DE X a fa) (hb : DE X b fb) : DE X (.Compare a [.Eq] [b] pos) (fOp kEq fa fb) := de_cmp (op_eq.or (op_eqD hu)) ox_eq (nomark _) ha hb
theorem de_ne (hu : X.A.units + 64 < cLine) (ha : DE X a fa) (hb : DE X b fb) : DE X (.Compare a [.NotEq] [b] pos) (fOp kNe fa fb) := de_cmp (op_ne.or (op_neD hu)) ox_ne (nomark _) ha hb
/-- order: ints, texts -/
def kOrd (p : Int → Int → Bool) (q : Str → Str → Bool) : KK := fun a b P => match a, b with
  | .int i, .int j => P (.val (.bl (p i j)))
  | .str x, .str y => P (.val (.bl (q x y)))
  | _, _ => False
theorem ox_ord {p : Int → Int → Bool} {q : Str → Str → Bool} {r : R2} (h : ∀ x y H Q, ((rI0 fun i j => .bl (p i j)) x y H Q ∨ ∃ i j, x = .str i ∧ y = .str j ∧ Q (.bl (q i j)) H) → r x y H Q) : OpX X r (kOrd p q) := by
  intro w H a b x y P Q le ra rb hk hq
  unfold kOrd at hk
  split at hk
  · cases (show x = .int _ from ra)
    cases (show y = .int _ from rb)
    exact h _ _ _ _ (.inl ⟨_, _, rfl, rfl, hq.old _ (.bl _) rfl hk⟩)
  · cases (show x = .str _ from ra)
    cases (show y = .str _ from rb)
    exact h _ _ _ _ (.inr ⟨_, _, rfl, rfl, hq.old _ (.bl _) rfl hk⟩)
  · exact hk.elim
def sLt (x y : Str) : Bool := decide (x.cps.toList < y.cps.toList)
def kLt : KK := kOrd (fun i j => decide (i < j)) sLt
def kGt : KK := kOrd (fun i j => decide (j < i)) fun x y => sLt y x
def kLe : KK := kOrd (fun i j => decide (i ≤ j)) fun x y => !sLt y x
def kGe : KK := kOrd (fun i j => decide (j ≤ i)) fun x y => !sLt x y
theorem or_lt : OpR X (compareOp .Lt) (fun x y H Q => (rI0 fun i j => .bl (decide (i < j))) x y H Q ∨ ∃ i j, x = .str i ∧ y = .str j ∧ Q (.bl (sLt i j)) H) := op_lt.or op_lt_str
theorem or_gt : OpR X (compareOp .Gt) (fun x y H Q => (rI0 fun i j => .bl (decide (j < i))) x y H Q ∨ ∃ i j, x = .str i ∧ y = .str j ∧ Q (.bl (sLt j i)) H) := op_gt.or op_gt_str
theorem or_le : OpR X (compareOp .LtE) (fun x y H Q => (rI0 fun i j => .bl (decide (i ≤ j))) x y H Q ∨ ∃ i j, x = .str i ∧ y = .str j ∧ Q (.bl (!sLt j i)) H) := op_le.or op_le_str
theorem or_ge : OpR X (compareOp .GtE) (fun x y H Q => (rI0 fun i j => .bl (decide (j ≤ i))) x y H Q ∨ ∃ i j, x = .str i ∧ y = .str j ∧ Q (.bl (!sLt i j)) H) := op_ge.or op_ge_str
theorem de_lt (ha : DE X a fa) (hb : DE X b fb) : DE X (.Compare a [.Lt] [b] pos) (fOp kLt fa fb) := de_cmp or_lt (ox_ord fun _ _ _ _ h => h) (nomark _) ha hb
theorem de_gt (ha : DE X a fa) (hb : DE X b fb) : DE X (.Compare a [.Gt] [b] pos) (fOp kGt fa fb) := de_cmp or_gt (ox_ord fun _ _ _ _ h => h) (nomark _) ha hb
theorem de_le (ha : DE X a fa) (hb : DE X b fb) : DE X (.Compare a [.LtE] [b] pos) (fOp kLe fa fb) := de_cmp or_le (ox_ord fun _ _ _ _ h => h) (nomark _) ha hb
theorem de_ge (ha : DE X a fa) (hb : DE X b fb) : DE X (.Compare a [.GtE] [b] pos) (fOp kGe fa fb) := de_cmp or_ge (ox_ord fun _ _ _ _ h => h) (nomark _) ha hb
/-- + - * % // ** -/
theorem de_add (ha : DE X a fa) (hb : DE X b fb) : DE X (.BinOp a .Add b pos) (fOp kAdd fa fb) := de_bin op_addA ox_add ha hb
theorem de_sub (ha : DE X a fa) (hb : DE X b fb) : DE X (.BinOp a .Sub b pos) (fOp kSub fa fb) := de_bin op_sub ox_sub ha hb
theorem de_mul (ha : DE X a fa) (hb : DE X b fb) : DE X (.BinOp a .Mult b pos) (fOp kMul fa fb) := de_bin op_mulA ox_mul ha hb
theorem de_mod (ha : DE X a fa) (hb : DE X b fb) : DE X (.BinOp a .Mod b pos) (fOp kMod fa fb) := de_bin op_mod ox_mod ha hb
theorem de_div (ha : DE X a fa) (hb : DE X b fb) : DE X (.BinOp a .FloorDiv b pos) (fOp kDiv fa fb) := de_bin op_fdivW ox_div ha hb
theorem de_pow (ha : DE X a fa) (hb : DE X b fb) : DE X (.BinOp a .Pow b pos) (fOp kPow fa fb) := de_bin op_powA ox_pow ha hb

/-! ### in -/
/-- a key -/
def kD : Key → D
  | .inl i => .int i
  | .inr x => .str x
def keyOf : D → Option Key
  | .int i => some (.inl i)
  | .str x => some (.inr x)
  | _ => none
theorem keyOf_rep {w : Wd} {d : D} {k : Key} {v : V} (h : keyOf d = some k) (r : Rep w d v) : v = kV k := by
  cases d <;> first | cases h | skip
  · exact r
  · exact r
variable {β : Type}
def valD (kvs : List (Key × β)) (k : Key) : Option β := (kvs.find? fun kv => decide (kv.1 = k)).map (·.2)
def putD (kvs : List (Key × β)) (k : Key) (v : β) : List (Key × β) :=
  if (kvs.any fun kv => decide (kv.1 = k)) = true then kvs.map (fun kv => if kv.1 = k then (kv.1, v) else kv) else kvs ++ [(k, v)]
def dropD (kvs : List (Key × β)) (k : Key) : List (Key × β) := kvs.filter fun kv => decide (kv.1 ≠ k)
end
section
variable {w : Wd}
theorem RepK.val : ∀ {ds : List (Key × D)} {vs : List (Key × V)} {k : Key}, RepK w ds vs → (∀ d, valD ds k = some d → ∃ v, valV vs k = some v ∧ Rep w d v) ∧ (valD ds k = none → valV vs k = none)
  | [], _, k, h => by
    subst h
    exact ⟨fun d e => by simp [valD] at e, fun _ => rfl⟩
  | (j, d) :: ds, _, k, ⟨v, us, e1, h1, h2⟩ => by
    subst e1
    obtain ⟨a, b⟩ := RepK.val (k := k) h2
    by_cases e : j = k
    · subst e
      refine ⟨fun d' q => ?_, fun q => ?_⟩
      · simp [valD] at q; subst q
        exact ⟨v, by simp [valV], h1⟩
      · simp [valD] at q
    · have hd : valD ((j, d) :: ds) k = valD ds k := by simp [valD, List.find?_cons, e]
      have hv : valV ((j, v) :: us) k = valV us k := by simp [valV, List.find?_cons, e]
      rw [hd, hv]
      exact ⟨a, b⟩
theorem RepK.any {ds : List (Key × D)} {vs : List (Key × V)} (h : RepK w ds vs) (k : Key) : (vs.any fun kv => decide (kv.1 = k)) = ds.any fun kv => decide (kv.1 = k) := by
  have e := h.keys
  have : ∀ {γ : Type} (l : List (Key × γ)), (l.any fun kv => decide (kv.1 = k)) = (l.map (·.1)).any fun j => decide (j = k) := fun l => by rw [List.any_map]; rfl
  rw [this, this, e]
theorem RepK.append : ∀ {ds es : List (Key × D)} {vs us : List (Key × V)}, RepK w ds vs → RepK w es us → RepK w (ds ++ es) (vs ++ us)
  | [], _, _, _, h, h' => by subst h; exact h'
  | (k, d) :: ds, _, _, _, ⟨v, ws, e1, h1, h2⟩, h' => by subst e1; exact ⟨v, _, rfl, h1, RepK.append h2 h'⟩
theorem RepK.repl {k : Key} {d : D} {v : V} (hr : Rep w d v) : ∀ {ds : List (Key × D)} {vs : List (Key × V)}, RepK w ds vs → RepK w (ds.map fun kv => if kv.1 = k then (kv.1, d) else kv) (vs.map fun kv => if kv.1 = k then (kv.1, v) else kv)
  | [], _, h => by subst h; rfl
  | (j, d') :: ds, _, ⟨v', ws, e1, h1, h2⟩ => by
    subst e1
    rw [List.map_cons, List.map_cons]
    by_cases e : j = k
    · rw [if_pos e, if_pos e]; exact ⟨v, _, rfl, hr, RepK.repl hr h2⟩
    · rw [if_neg e, if_neg e]; exact ⟨v', _, rfl, h1, RepK.repl hr h2⟩
theorem RepK.put {ds : List (Key × D)} {vs : List (Key × V)} (h : RepK w ds vs) (k : Key) {d : D} {v : V} (hr : Rep w d v) : RepK w (putD ds k d) (putK vs k v) := by
  unfold putD putK
  rw [h.any k]
  split
  · exact RepK.repl hr h
  · exact h.append ⟨v, [], rfl, hr, rfl⟩
theorem RepK.drop {k : Key} : ∀ {ds : List (Key × D)} {vs : List (Key × V)}, RepK w ds vs → RepK w (dropD ds k) (dropK vs k)
  | [], _, h => by subst h; rfl
  | (j, d) :: ds, _, ⟨v, ws, e1, h1, h2⟩ => by
    subst e1
    unfold dropD dropK
    rw [List.filter_cons, List.filter_cons]
    by_cases e : j = k
    · rw [if_neg (by simp [e]), if_neg (by simp [e])]; exact RepK.drop h2
    · rw [if_pos (by simp [e]), if_pos (by simp [e])]; exact ⟨v, _, rfl, h1, RepK.drop h2⟩
end
section
variable {X : Cx} {a b c e : Expr} {pos : Pos} {fa fb fc : WE}
def rDIn (neg : Bool) : R2 := fun y x H Q => ∃ a o, x = .ref a ∧ DGet H a y o ∧ Q (.bl (if neg then !o.isSome else o.isSome)) H
theorem op_dIn (hu : X.A.units + 1 < cLine) : OpR X (compareOp .In) (rDIn false) := by
  intro pins s σ H x y v u Q I rx ry h
  obtain ⟨a, o, rfl, g, q⟩ := h
  cases ry
  exact d_in hu I g rx fun s3 I3 => ⟨.bl o.isSome, H, I3, rfl, q⟩
theorem op_dNotIn (hu : X.A.units + 1 < cLine) : OpR X (compareOp .NotIn) (rDIn true) := by
  intro pins s σ H x y v u Q I rx ry h
  obtain ⟨a, o, rfl, g, q⟩ := h
  cases ry
  exact d_notIn hu I g rx fun s3 I3 => ⟨.bl (!o.isSome), H, I3, rfl, q⟩
/-- x in a text, a dict, a list, a tuple -/
def inS (x y : Str) : Bool := !(Builtin.Str.occurrences y x 0 y.length 1).isEmpty
def inL (x : D) (ys : List D) : Bool := ys.any fun z => eqD z x
def kIn (neg : Bool) : KK := fun a b P => match b with
  | .str y => ∃ x, a = .str x ∧ P (.val (.bl (neg ^^ inS x y)))
  | .dic kvs => ∃ k, keyOf a = some k ∧ P (.val (.bl (neg ^^ (valD kvs k).isSome)))
  | .lst ys => ((flatD a = true ∧ ys.all flatD = true) ∨ (shp a = true ∧ shp (.lst ys) = true)) ∧ P (.val (.bl (neg ^^ inL a ys)))
  | .tup ys => (flatD a = true ∧ ys.all flatD = true) ∧ P (.val (.bl (neg ^^ inL a ys)))
  | _ => False
def rInA (K : PySem.W.Frag) (neg : Bool) : R2 := fun x y H Q => (∃ i j, x = .str i ∧ y = .str j ∧ Q (.bl (neg ^^ inS i j)) H) ∨ rDIn neg x y H Q ∨
  (∃ d ds, Dp K H x d ∧ Dp K H y (.list ds) ∧ SeqAt.shaped d = true ∧ SeqAt.shaped (.list ds) = true ∧ Q (.bl (neg ^^ (ds.any fun z => PyData.eqv z d))) H) ∨ rIn K neg x y H Q
theorem op_inA (hu : X.A.units + 65 < cLine) : OpR X (compareOp .In) (rInA X.K false) := by
  refine OpR.or ?_ ((op_dIn (by omega)).or (OpR.or ?_ op_in_seq))
  · intro pins s σ H x y v u Q I rx ry h
    obtain ⟨i, j, h1, h2, q⟩ := h
    rw [Bool.false_xor] at q
    exact op_in_str pins s σ H x y v u Q I rx ry ⟨i, j, h1, h2, q⟩
  · intro pins s σ H x y v u Q I rx ry h
    obtain ⟨d, ds, h1, h2, h3, h4, q⟩ := h
    rw [Bool.false_xor] at q
    exact op_inD hu pins s σ H x y v u Q I rx ry ⟨d, ds, h1, h2, h3, h4, q⟩
theorem op_notInA (hu : X.A.units + 65 < cLine) : OpR X (compareOp .NotIn) (rInA X.K true) := by
  refine OpR.or ?_ ((op_dNotIn (by omega)).or (OpR.or ?_ op_notIn_seq))
  · intro pins s σ H x y v u Q I rx ry h
    obtain ⟨i, j, h1, h2, q⟩ := h
    rw [Bool.true_xor] at q
    exact op_notIn_str pins s σ H x y v u Q I rx ry ⟨i, j, h1, h2, q⟩
  · intro pins s σ H x y v u Q I rx ry h
    obtain ⟨d, ds, h1, h2, h3, h4, q⟩ := h
    rw [Bool.true_xor] at q
    exact op_notInD hu pins s σ H x y v u Q I rx ry ⟨d, ds, h1, h2, h3, h4, q⟩
theorem flat_rep {w : Wd} {d : D} {v : V} (h : flatD d = true) (r : Rep w d v) : flatV v = true := by
  cases d <;> first | (cases h; done) | skip
  all_goals (cases r; rfl)
theorem flat_eq {w : Wd} {d e : D} {v u : V} (h : flatD d = true) (h' : flatD e = true) (r : Rep w d v) (r' : Rep w e u) : eqV v u = eqD d e := by
  cases d <;> first | (cases h; done) | skip
  all_goals (cases e <;> first | (cases h'; done) | skip)
  all_goals (cases r; cases r'; simp [eqV, eqD, toPy, PyData.eqv])
theorem inL_rep {w : Wd} {d : D} {v : V} (h : flatD d = true) (r : Rep w d v) : ∀ {ys : List D} {vs : List V}, ys.all flatD = true → RepL w ys vs → vs.all flatV = true ∧ inV v vs = inL d ys
  | [], _, _, hr => by subst hr; exact ⟨rfl, rfl⟩
  | y :: ys, _, hf, ⟨u, us, e1, h1, h2⟩ => by
    subst e1
    rw [List.all_cons, Bool.and_eq_true] at hf
    obtain ⟨a1, a2⟩ := inL_rep h r hf.2 h2
    refine ⟨by rw [List.all_cons, flat_rep hf.1 h1, a1]; rfl, ?_⟩
    unfold inV inL at *
    rw [List.any_cons, List.any_cons, flat_eq hf.1 h h1 r, a2]
theorem ox_in {neg : Bool} : OpX X (rInA X.K neg) (kIn neg) := by
  intro w H a b x y P Q le ra rb hk hq
  unfold kIn at hk
  split at hk
  · obtain ⟨z, rfl, hp⟩ := hk
    cases (show x = .str _ from ra)
    cases (show y = .str _ from rb)
    exact .inl ⟨_, _, rfl, rfl, hq.old _ (.bl _) rfl hp⟩
  · obtain ⟨k, hk, hp⟩ := hk
    obtain ⟨l, vs, rfl, h1, h2⟩ := (show ∃ a vs, y = .ref a ∧ Rd H a (.dK vs) ∧ RepK w _ vs from rb)
    have ra' : Rep w a x := by cases a <;> first | exact ra | cases hk
    obtain rfl := keyOf_rep hk ra'
    refine .inr (.inl ⟨l, valV vs k, rfl, .inl ⟨vs, k, h1, rfl, rfl⟩, hq.old _ (.bl _) rfl ?_⟩)
    rename_i kvs
    have e : (valV vs k).isSome = (valD kvs k).isSome := by
      obtain ⟨g1, g2⟩ := h2.val (k := k)
      cases q : valD kvs k with
      | none => rw [g2 q]; rfl
      | some d => obtain ⟨v, g, _⟩ := g1 d q; rw [g]; rfl
    rw [e]
    cases neg
    · rw [Bool.false_xor] at hp; exact hp
    · rw [Bool.true_xor] at hp; exact hp
  · obtain ⟨hc, hp⟩ := hk
    rename_i ys
    rcases hc with ⟨s1, s2⟩ | ⟨s1, s2⟩
    · obtain ⟨l, vs, rfl, h1, h2⟩ := (show ∃ a vs, y = .ref a ∧ Rd H a (.lst vs) ∧ RepL w _ vs from rb)
      have ra' := flat_repT s1 ra
      obtain ⟨g1, g2⟩ := inL_rep s1 ra' s2 h2
      refine .inr (.inr (.inr ⟨l, vs, rfl, .inl (.inl h1), flat_rep s1 ra', g1, hq.old _ (.bl _) rfl ?_⟩))
      rw [g2]
      cases neg
      · rw [Bool.false_xor] at hp; exact hp
      · rw [Bool.true_xor] at hp; exact hp
    · refine .inr (.inr (.inl ⟨toPy a, toPyL ys, repT_dp le ra (shp_lay s1), repT_dp le rb (shp_lay s2), s1, s2, hq.old _ (.bl _) rfl ?_⟩))
      rw [toPyL_map, List.any_map]; exact hp
  · obtain ⟨⟨s1, s2⟩, hp⟩ := hk
    obtain ⟨l, vs, rfl, h1, h2⟩ := (show ∃ a vs, y = .ref a ∧ w.F a = some (.tup vs) ∧ RepL w _ vs from rb)
    have ra' : Rep w a x := by cases a <;> first | exact ra | cases s1
    obtain ⟨g1, g2⟩ := inL_rep s1 ra' s2 h2
    refine .inr (.inr (.inr ⟨l, vs, rfl, .inr (.inl (le _ _ h1)), flat_rep s1 ra', g1, hq.old _ (.bl _) rfl ?_⟩))
    rw [g2]
    cases neg
    · rw [Bool.false_xor] at hp; exact hp
    · rw [Bool.true_xor] at hp; exact hp
  · exact hk.elim
theorem de_in (hu : X.A.units + 65 < cLine) (ha : DE X a fa) (hb : DE X b fb) (hm : behindInMarks .In b = false := by rfl) : DE X (.Compare a [.In] [b] pos) (fOp (kIn false) fa fb) := de_cmp (op_inA hu) ox_in hm ha hb
theorem de_notin (hu : X.A.units + 65 < cLine) (ha : DE X a fa) (hb : DE X b fb) (hm : behindInMarks .NotIn b = false := by rfl) : DE X (.Compare a [.NotIn] [b] pos) (fOp (kIn true) fa fb) := de_cmp (op_notInA hu) ox_in hm ha hb
end
end Vl
namespace Vl
open PySem PySem.Spec L2
open PyProof.Rows hiding St

section
variable {X : Cx} {a b c e : Expr} {pos : Pos} {fa fb fc f : WE}
/-! ### places -/
theorem ix_dict (hu : X.A.units + 1 < cLine) : IxR X (fun x y H Q => ∃ a v, x = .ref a ∧ DGet H a y (some v) ∧ Q v H) := by
  intro value slice pins s σ H x y v u Q I rx ry h hs
  obtain ⟨a, z, rfl, g, q⟩ := h
  cases rx
  have hT := dict_typeIs I g
  unfold subscriptTail
  refine wpAny_bind ?_
  rw [getitemInPython_of_ne hT.not_modules]
  refine wpAny_bind (wpAny_specialOf hT PySem.F.slot_dict_getitem.lookup ?_)
  have fin : wpAny (model X.prog X.w) X.A (subscripted slice false (.ref a) u) (fun r s₃ => wpAny (model X.prog X.w) X.A (letTemporaryGo value (.ref a) r >>= fun _ => pure r) (EP X pins σ Q) X.xe s₃) X.xe s := by
    rw [hs]
    exact wpAny_operating (wpAny_mono (d_getItem hu I g ry fun w' s3 I3 rw' => (⟨z, H, I3, rw', q⟩ : EP X pins σ Q w' s3)) (fun r s₃ h₃ => wpAny_bind (wpAny_letTemporaryGo (wpAny_pure h₃))) fun _ _ x => x)
  first
    | exact wpAny_pure (wpAny_bind fin)
    | exact wpAny_bind (wpAny_pure (wpAny_bind fin))
    | exact wpAny_bind fin
def kIx : KK := fun a b P => match a with
  | .lst xs => ∃ i d, b = .int i ∧ atI xs i = some d ∧ P (.val d)
  | .tup xs => ∃ i d, b = .int i ∧ atI xs i = some d ∧ P (.val d)
  | .str z => z.length ≤ sizeLine ∧ ∃ i c, b = .int i ∧ atI z.cps.toList i = some c ∧ P (.val (.str ⟨#[c]⟩))
  | .dic kvs => ∃ k d, keyOf b = some k ∧ valD kvs k = some d ∧ P (.val d)
  | _ => False
def rIxA (K : PySem.W.Frag) : R2 := fun x y H Q => rIx K x y H Q ∨ ∃ a v, x = .ref a ∧ DGet H a y (some v) ∧ Q v H
theorem RepL.atI {w : Wd} {ds : List D} {vs : List V} {i : Int} {d : D} (h : RepL w ds vs) (e : atI ds i = some d) : ∃ v, L2.atI vs i = some v ∧ Rep w d v := by
  unfold L2.atI at *
  rw [h.length]
  cases q : ixN ds.length i with
  | none => rw [q] at e; cases e
  | some j =>
    rw [q] at e
    exact h.get e
theorem ox_ix : ∀ (w : Wd) (H : Hp) (a b : D) (x y : V) (P : Re → Prop) (Q : VK), Le w H → RepT w H a x → RepT w H b y → kIx a b P → Fin w H P Q → rIxA X.K x y H Q := by
  intro w H a b x y P Q le ra rb hk hq
  unfold kIx at hk
  split at hk
  · obtain ⟨i, d, rfl, e, hp⟩ := hk
    cases (show y = .int _ from rb)
    obtain ⟨l, vs, rfl, h1, h2⟩ := (show ∃ a vs, x = .ref a ∧ Rd H a (.lst vs) ∧ RepL w _ vs from ra)
    obtain ⟨v, e2, rv⟩ := h2.atI e
    exact .inl (.inl ⟨l, vs, i, v, rfl, rfl, .inl h1, e2, hq.old _ _ rv hp⟩)
  · obtain ⟨i, d, rfl, e, hp⟩ := hk
    cases (show y = .int _ from rb)
    obtain ⟨l, vs, rfl, h1, h2⟩ := (show ∃ a vs, x = .ref a ∧ w.F a = some (.tup vs) ∧ RepL w _ vs from ra)
    obtain ⟨v, e2, rv⟩ := h2.atI e
    exact .inl (.inr (.inl ⟨l, vs, i, v, rfl, rfl, .inl (le _ _ h1), e2, hq.old _ _ rv hp⟩))
  · obtain ⟨hz, i, c, rfl, e, hp⟩ := hk
    cases (show y = .int _ from rb)
    cases (show x = .str _ from ra)
    exact .inl (.inr (.inr ⟨_, i, c, rfl, rfl, hz, e, hq.old _ (.str _) rfl hp⟩))
  · obtain ⟨k, d, hk, e, hp⟩ := hk
    have rb' : Rep w b y := by cases b <;> first | exact rb | cases hk
    obtain rfl := keyOf_rep hk rb'
    obtain ⟨l, vs, rfl, h1, h2⟩ := (show ∃ a vs, x = .ref a ∧ Rd H a (.dK vs) ∧ RepK w _ vs from ra)
    obtain ⟨v, e2, rv⟩ := (h2.val (k := k)).1 d e
    exact .inr ⟨l, v, rfl, .inl ⟨vs, k, h1, rfl, e2.symm⟩, hq.old _ _ rv hp⟩
  · exact hk.elim
theorem de_ix (hu : X.A.units + 1 < cLine) (ha : DE X a fa) (hb : DE X b fb) (hs : PlainIx b := by exact fun _ _ => rfl) : DE X (.Subscript a b pos) (fOp kIx fa fb) := by
  obtain ⟨ta, tb, pa, pb, h2⟩ := two ha hb
  exact ⟨_, pe_ix (ix_seq.or (ix_dict hu)) pa pb hs, op_run (X := X) ox_ix h2⟩

/-! ### slices -/
abbrev WO := SS → (Option Int → SS → Prop) → Prop
def DO (X : Cx) (e : Option Expr) (f : WO) : Prop := ∃ t, PO X e t ∧ ∀ (B : Hp) (R : Addr → Prop) (w : Wd) (σ : St) (H : Hp) (ss : SS) (G : Option Int → SS → Prop) (Q : Option Int → Hp → Prop), Ok B R w σ H ss → f ss G →
  (∀ o H' ss' w', Ok B R w' σ H' ss' → Ext w w' → G o ss' → Q o H') → t σ H Q
def isI (r : Re) (k : Int → Prop) : Prop := match r with
  | .val (.int i) => k i
  | _ => False
def fNoO : WO := fun ss G => G none ss
theorem do_none : DO X none fNoO := ⟨_, po_none, fun B R w σ H ss G Q o hw hq => hq none H ss w o (.refl w) hw⟩
def fO (f : WE) : WO := fun ss G => f ss fun r s => isI r fun i => G (some i) s
theorem do_some (h : DE X e f) : DO X (some e) (fO f) := by
  obtain ⟨t, pe, hf⟩ := h
  refine ⟨_, po_some pe, fun B R w σ H ss G Q o hw hq => hf B R w σ H ss _ _ o hw fun v H' r ss' w' o' rr ex hg => ?_⟩
  unfold isI at hg
  split at hg
  · exact ⟨_, rr, hq _ H' ss' w' o' ex hg⟩
  · exact hg.elim
def cutL {α : Type} (xs : List α) (lo hi : Option Int) : List α := (xs.drop (HT.sIx xs.length 0 lo)).take (HT.sIx xs.length xs.length hi - HT.sIx xs.length 0 lo)
theorem RepL.cut {w : Wd} {ds : List D} {vs : List V} (h : RepL w ds vs) (lo hi : Option Int) : RepL w (cutL ds lo hi) (cutV vs lo hi) := by
  unfold cutL cutV
  rw [h.length]
  exact RepL.take _ (RepL.drop _ h)
def kSl (d : D) (lo hi : Option Int) (P : Re → Prop) : Prop := match d with
  | .lst xs => P (.new (.lst (cutL xs lo hi)))
  | .str z => z.length ≤ sizeLine ∧ P (.val (.str (cutS z lo hi)))
  | .tup xs => P (.val (.tup (cutL xs lo hi)))
  | _ => False
def rSlX (K : PySem.W.Frag) : V → Option Int → Option Int → Hp → VK → Prop := fun x lo hi H Q => rSlL K x lo hi H Q ∨ rSlS x lo hi H Q ∨ rSlA K x lo hi H Q
theorem cut_whole {α : Type} {xs : List α} {lo hi : Option Int} (h : HT.sIx xs.length 0 lo = 0 ∧ HT.sIx xs.length xs.length hi = xs.length) : cutL xs lo hi = xs := by
  unfold cutL
  rw [h.1, h.2]
  simp
def fSl (fa : WE) (fl fh : WO) : WE := fun ss G => fa ss fun r s1 => fl s1 fun lo s2 => fh s2 fun hi s3 => vw r s3 fun d => kSl d lo hi fun r => G r s3
theorem de_slice {lo hi : Option Expr} {p2 : Pos} {fl fh : WO} (ha : DE X a fa) (hl : DO X lo fl) (hh : DO X hi fh) : DE X (.Subscript a (.Slice lo hi none p2) pos) (fSl fa fl fh) := by
  obtain ⟨ta, pa, ka⟩ := ha
  obtain ⟨tl, pl, kl⟩ := hl
  obtain ⟨th, ph, kh⟩ := hh
  refine ⟨_, pe_slice (r := rSlX X.K) (sl_list.or (sl_str.or sl_tupA)) pa pl ph, fun B R w σ H ss G Q o hw hq => ka B R w σ H ss _ _ o hw fun x H1 r s1 w1 o1 r1 e1 h1 => ?_⟩
  obtain ⟨B', R', o1', hB, hR, back⟩ := o1.hold r1
  refine kl B' R' w1 σ H1 s1 _ _ o1' h1 fun lo H2 s2 w2 o2 e2 h2 => ?_
  refine kh B' R' w2 σ H2 s2 _ _ o2 h2 fun hi H3 s3 w3 o3 e3 h3 => ?_
  obtain ⟨o3', r1'⟩ := back w3 H3 s3 o3 (e2.trans e3)
  obtain ⟨d, rd, hk⟩ := vw_ok o3' r1' h3
  have fin := fin_of (G := G) o3' (e1.trans (e2.trans e3)) (fun _ h => h) hq
  have le := o3'.le
  unfold kSl at hk
  split at hk
  · obtain ⟨l, vs, rfl, h1, h2⟩ := (show ∃ a vs, x = .ref a ∧ Rd H3 a (.lst vs) ∧ RepL w3 _ vs from rd)
    exact .inl ⟨l, vs, rfl, .inl h1, fun p hp => fin.new p _ (.lst _) hp ⟨_, upd_same, h2.cut lo hi⟩ hk⟩
  · cases (show x = .str _ from rd)
    exact .inr (.inl ⟨_, rfl, hk.1, fin.old _ (.str _) rfl hk.2⟩)
  · obtain ⟨l, vs, rfl, h1, h2⟩ := (show ∃ a vs, x = .ref a ∧ w3.F a = some (.tup vs) ∧ RepL w3 _ vs from rd)
    refine .inr (.inr ⟨l, vs, rfl, .inl (le _ _ h1), fun z => fin.old _ (.tup _) ⟨l, vs, rfl, h1, ?_⟩ hk, fun z p hp => fin.tup p _ _ hp (h2.cut lo hi) hk⟩)
    have e : vs.length = _ := h2.length
    rw [e] at z
    rw [cut_whole z]; exact h2
  · exact hk.elim

/-! ### is None; signs; truth -/
def isNon : D → Bool
  | .non => true
  | _ => false
def noRaw : D → Bool
  | .raw _ => false
  | _ => true
def kIs (neg : Bool) : KK := fun a b P => b = .non ∧ noRaw a = true ∧ P (.val (.bl (neg ^^ isNon a)))
theorem isNon_rep {w : Wd} {H : Hp} {a : D} {x : V} (h : noRaw a = true) (r : RepT w H a x) : decide (x = .non) = isNon a := by
  cases a with
  | non => cases (show x = .non from r); rfl
  | bl _ => cases (show x = .bl _ from r); rfl
  | int _ => cases (show x = .int _ from r); rfl
  | str _ => cases (show x = .str _ from r); rfl
  | lst _ => obtain ⟨_, _, rfl, _⟩ := r; rfl
  | tup _ => obtain ⟨_, _, rfl, _⟩ := r; rfl
  | dic _ => obtain ⟨_, _, rfl, _⟩ := r; rfl
  | loc _ => obtain ⟨_, rfl, _⟩ := r; rfl
  | raw _ => cases h
theorem ox_is : OpX X (fun x y H Q => y = .non ∧ Q (.bl (decide (x = .non))) H) (kIs false) := by
  intro w H a b x y P Q le ra rb ⟨hb, hn, hp⟩ hq
  subst hb
  cases (show y = .non from rb)
  refine ⟨rfl, ?_⟩
  rw [isNon_rep hn ra]
  exact hq.old _ (.bl _) rfl (by rw [Bool.false_xor] at hp; exact hp)
theorem ox_isnot : OpX X (fun x y H Q => y = .non ∧ Q (.bl (!decide (x = .non))) H) (kIs true) := by
  intro w H a b x y P Q le ra rb ⟨hb, hn, hp⟩ hq
  subst hb
  cases (show y = .non from rb)
  refine ⟨rfl, ?_⟩
  rw [isNon_rep hn ra]
  exact hq.old _ (.bl _) rfl (by rw [Bool.true_xor] at hp; exact hp)
theorem de_is (ha : DE X a fa) (hb : DE X b fb) : DE X (.Compare a [.Is] [b] pos) (fOp (kIs false) fa fb) := de_cmp op_isN ox_is (nomark _) ha hb
theorem de_isnot (ha : DE X a fa) (hb : DE X b fb) : DE X (.Compare a [.IsNot] [b] pos) (fOp (kIs true) fa fb) := de_cmp op_notN ox_isnot (nomark _) ha hb
def fNeg (fa : WE) : WE := fun ss G => fa ss fun r s => isI r fun i => G (.val (.int (-i))) s
theorem de_neg (ha : DE X a fa) : DE X (.UnaryOp .USub a pos) (fNeg fa) := by
  obtain ⟨t, pe, hf⟩ := ha
  refine ⟨_, pe_un un_neg pe, fun B R w σ H ss G Q o hw hq => hf B R w σ H ss _ _ o hw fun v H' r ss' w' o' rr ex hg => ?_⟩
  unfold isI at hg
  split at hg
  · exact ⟨_, rr, hq _ H' (.val (.int _)) ss' w' o' rfl ex hg⟩
  · exact hg.elim
/-- a truth value -/
def isB (r : Re) (k : Bool → Prop) : Prop := match r with
  | .val (.bl i) => k i
  | _ => False
def fAnd (fa fb : WE) : WE := fun ss G => fa ss fun r s => isB r fun i => if i = true then fb s G else G (.val (.bl false)) s
def fOr (fa fb : WE) : WE := fun ss G => fa ss fun r s => isB r fun i => if i = true then G (.val (.bl true)) s else fb s G
def fNot (fa : WE) : WE := fun ss G => fa ss fun r s => isB r fun i => G (.val (.bl (!i))) s
theorem de_one {op} (ha : DE X a fa) : DE X (.BoolOp op [a] pos) fa := by
  obtain ⟨t, pe, hf⟩ := ha
  exact ⟨t, pe_one pe, hf⟩
theorem de_and {rest : List Expr} (ha : DE X a fa) (hb : DE X (.BoolOp .And (b :: rest) pos) fb) : DE X (.BoolOp .And (a :: b :: rest) pos) (fAnd fa fb) := by
  obtain ⟨t, pe, hf⟩ := ha
  obtain ⟨t2, pe2, hf2⟩ := hb
  refine ⟨_, pe_and pe pe2, fun B R w σ H ss G Q o hw hq => hf B R w σ H ss _ _ o hw fun v H' r ss' w' o' rr ex hg => ?_⟩
  unfold isB at hg
  split at hg
  · refine ⟨_, rr, ?_⟩
    split
    · rename_i h; rw [if_pos h] at hg
      exact hf2 B R w' σ H' ss' G Q o' hg fun v2 H2 r2 s2 w2 o2 rr2 e2 g2 => hq v2 H2 r2 s2 w2 o2 rr2 (ex.trans e2) g2
    · rename_i h; rw [if_neg h] at hg
      exact hq _ H' (.val (.bl false)) ss' w' o' rfl ex hg
  · exact hg.elim
theorem de_or {rest : List Expr} (ha : DE X a fa) (hb : DE X (.BoolOp .Or (b :: rest) pos) fb) : DE X (.BoolOp .Or (a :: b :: rest) pos) (fOr fa fb) := by
  obtain ⟨t, pe, hf⟩ := ha
  obtain ⟨t2, pe2, hf2⟩ := hb
  refine ⟨_, pe_or pe pe2, fun B R w σ H ss G Q o hw hq => hf B R w σ H ss _ _ o hw fun v H' r ss' w' o' rr ex hg => ?_⟩
  unfold isB at hg
  split at hg
  · refine ⟨_, rr, ?_⟩
    split
    · rename_i h; rw [if_pos h] at hg
      exact hq _ H' (.val (.bl true)) ss' w' o' rfl ex hg
    · rename_i h; rw [if_neg h] at hg
      exact hf2 B R w' σ H' ss' G Q o' hg fun v2 H2 r2 s2 w2 o2 rr2 e2 g2 => hq v2 H2 r2 s2 w2 o2 rr2 (ex.trans e2) g2
  · exact hg.elim
theorem de_not (ha : DE X a fa) : DE X (.UnaryOp .Not a pos) (fNot fa) := by
  obtain ⟨t, pe, hf⟩ := ha
  refine ⟨_, pe_not pe, fun B R w σ H ss G Q o hw hq => hf B R w σ H ss _ _ o hw fun v H' r ss' w' o' rr ex hg => ?_⟩
  unfold isB at hg
  split at hg
  · exact ⟨_, rr, hq _ H' (.val (.bl _)) ss' w' o' rfl ex hg⟩
  · exact hg.elim

/-! ### tests -/
def fT (f : WE) : WT := fun ss G => f ss fun r s => isB r fun i => G i s
theorem dt_of {t : TE} (pt : PT X e (tTest t)) (hf : ∀ (B : Hp) (R : Addr → Prop) (w : Wd) (σ : St) (H : Hp) (ss : SS) (G : Re → SS → Prop) (Q : VK), Ok B R w σ H ss → f ss G →
  (∀ v H' r ss' w', Ok B R w' σ H' ss' → RepR B R w' σ H' ss' r v → Ext w w' → G r ss' → Q v H') → t σ H Q) : DT X e (fT f) := by
  refine ⟨_, pt, fun B R w σ H ss G Q o hw hq => hf B R w σ H ss _ _ o hw fun v H' r ss' w' o' rr ex hg => ?_⟩
  unfold isB at hg
  split at hg
  · exact ⟨_, rr, hq _ H' ss' w' o' ex hg⟩
  · exact hg.elim
/-- an expression whose value is a truth value -/
theorem dt_val (h : DE X e f) (he : ∀ whole, isTrue e X.env whole = (do let v ← whole; standAt e.pos; holding [v] (truthy v)) := by intro _; rfl) : DT X e (fT f) := by
  obtain ⟨t, pe, hf⟩ := h
  exact dt_of (pt_val pe he) hf
theorem dt_cmp {op : CmpOp} {r : R2} {k : KK} (ho : OpR X (compareOp op) r) (hk : OpX X r k) (hm : behindInMarks op b = false) (ha : DE X a fa) (hb : DE X b fb) : DT X (.Compare a [op] [b] pos) (fT (fOp k fa fb)) := by
  obtain ⟨ta, tb, pa, pb, h2⟩ := two ha hb
  exact dt_of (pt_cmpR ho pa pb hm) (op_run hk h2)
theorem dt_eq (hu : X.A.units + 64 < cLine) (ha : DE X a fa) (hb : DE X b fb) : DT X (.Compare a [.Eq] [b] pos) (fT (fOp kEq fa fb)) := dt_cmp (op_eq.or (op_eqD hu)) ox_eq (nomark _) ha hb
theorem dt_ne (hu : X.A.units + 64 < cLine) (ha : DE X a fa) (hb : DE X b fb) : DT X (.Compare a [.NotEq] [b] pos) (fT (fOp kNe fa fb)) := dt_cmp (op_ne.or (op_neD hu)) ox_ne (nomark _) ha hb
theorem dt_lt (ha : DE X a fa) (hb : DE X b fb) : DT X (.Compare a [.Lt] [b] pos) (fT (fOp kLt fa fb)) := dt_cmp or_lt (ox_ord fun _ _ _ _ h => h) (nomark _) ha hb
theorem dt_gt (ha : DE X a fa) (hb : DE X b fb) : DT X (.Compare a [.Gt] [b] pos) (fT (fOp kGt fa fb)) := dt_cmp or_gt (ox_ord fun _ _ _ _ h => h) (nomark _) ha hb
theorem dt_le (ha : DE X a fa) (hb : DE X b fb) : DT X (.Compare a [.LtE] [b] pos) (fT (fOp kLe fa fb)) := dt_cmp or_le (ox_ord fun _ _ _ _ h => h) (nomark _) ha hb
theorem dt_ge (ha : DE X a fa) (hb : DE X b fb) : DT X (.Compare a [.GtE] [b] pos) (fT (fOp kGe fa fb)) := dt_cmp or_ge (ox_ord fun _ _ _ _ h => h) (nomark _) ha hb
theorem dt_in (hu : X.A.units + 65 < cLine) (ha : DE X a fa) (hb : DE X b fb) (hm : behindInMarks .In b = false := by rfl) : DT X (.Compare a [.In] [b] pos) (fT (fOp (kIn false) fa fb)) := dt_cmp (op_inA hu) ox_in hm ha hb
theorem dt_notin (hu : X.A.units + 65 < cLine) (ha : DE X a fa) (hb : DE X b fb) (hm : behindInMarks .NotIn b = false := by rfl) : DT X (.Compare a [.NotIn] [b] pos) (fT (fOp (kIn true) fa fb)) := dt_cmp (op_notInA hu) ox_in hm ha hb
theorem dt_is (ha : DE X a fa) (hb : DE X b fb) : DT X (.Compare a [.Is] [b] pos) (fT (fOp (kIs false) fa fb)) := dt_cmp op_isN ox_is (nomark _) ha hb
theorem dt_isnot (ha : DE X a fa) (hb : DE X b fb) : DT X (.Compare a [.IsNot] [b] pos) (fT (fOp (kIs true) fa fb)) := dt_cmp op_notN ox_isnot (nomark _) ha hb
/-- and, or, not as tests -/
def DW (X : Cx) (e : Expr) (f : WT) : Prop := ∃ t, PW X e t ∧ ∀ (B : Hp) (R : Addr → Prop) (w : Wd) (σ : St) (H : Hp) (ss : SS) (G : Bool → SS → Prop) (Q : Bool → Hp → Prop), Ok B R w σ H ss → f ss G →
  (∀ b H' ss' w', Ok B R w' σ H' ss' → Ext w w' → G b ss' → Q b H') → t σ H Q
variable {ga gb gc : WT}
theorem dt_w (h : DW X e ga) : DT X e ga := by
  obtain ⟨t, p, hf⟩ := h
  exact ⟨t, p.pt, hf⟩
theorem dw_and1 (ha : DT X a ga) : DW X (.BoolOp .And [a] pos) ga := by
  obtain ⟨t, p, hf⟩ := ha
  exact ⟨t, pw_and1 p, hf⟩
theorem dw_or1 (ha : DT X a ga) : DW X (.BoolOp .Or [a] pos) ga := by
  obtain ⟨t, p, hf⟩ := ha
  exact ⟨t, pw_or1 p, hf⟩
def gAnd (ga gb : WT) : WT := fun ss G => ga ss fun c s => if c = true then gb s G else G false s
def gOr (ga gb : WT) : WT := fun ss G => ga ss fun c s => if c = true then G true s else gb s G
def gNot (ga : WT) : WT := fun ss G => ga ss fun c s => G (!c) s
theorem dw_and {rest : List Expr} (ha : DT X a ga) (hb : DW X (.BoolOp .And (b :: rest) pos) gb) : DW X (.BoolOp .And (a :: b :: rest) pos) (gAnd ga gb) := by
  obtain ⟨t, p, hf⟩ := ha
  obtain ⟨t2, p2, hf2⟩ := hb
  refine ⟨_, pw_and p p2, fun B R w σ H ss G Q o hw hq => hf B R w σ H ss _ _ o hw fun c H' ss' w' o' ex hg => ?_⟩
  split
  · rename_i h; rw [if_pos h] at hg
    exact hf2 B R w' σ H' ss' G Q o' hg fun v2 H2 s2 w2 o2 e2 g2 => hq v2 H2 s2 w2 o2 (ex.trans e2) g2
  · rename_i h; rw [if_neg h] at hg
    exact hq _ H' ss' w' o' ex hg
theorem dw_or {rest : List Expr} (ha : DT X a ga) (hb : DW X (.BoolOp .Or (b :: rest) pos) gb) : DW X (.BoolOp .Or (a :: b :: rest) pos) (gOr ga gb) := by
  obtain ⟨t, p, hf⟩ := ha
  obtain ⟨t2, p2, hf2⟩ := hb
  refine ⟨_, pw_or p p2, fun B R w σ H ss G Q o hw hq => hf B R w σ H ss _ _ o hw fun c H' ss' w' o' ex hg => ?_⟩
  split
  · rename_i h; rw [if_pos h] at hg
    exact hq _ H' ss' w' o' ex hg
  · rename_i h; rw [if_neg h] at hg
    exact hf2 B R w' σ H' ss' G Q o' hg fun v2 H2 s2 w2 o2 e2 g2 => hq v2 H2 s2 w2 o2 (ex.trans e2) g2
theorem dt_not (ha : DT X a ga) : DT X (.UnaryOp .Not a pos) (gNot ga) := by
  obtain ⟨t, p, hf⟩ := ha
  exact ⟨_, pt_not p, fun B R w σ H ss G Q o hw hq => hf B R w σ H ss _ _ o hw fun c H' ss' w' o' ex hg => hq _ H' ss' w' o' ex hg⟩
/-- a if t else b -/
def fIf (g : WT) (fa fb : WE) : WE := fun ss G => g ss fun c s => if c = true then fa s G else fb s G
theorem de_if (hc : DT X c gc) (ha : DE X a fa) (hb : DE X b fb) : DE X (.IfExp c a b pos) (fIf gc fa fb) := by
  obtain ⟨t, p, hf⟩ := hc
  obtain ⟨t1, p1, hf1⟩ := ha
  obtain ⟨t2, p2, hf2⟩ := hb
  refine ⟨_, pe_ifExp p p1 p2, fun B R w σ H ss G Q o hw hq => hf B R w σ H ss _ _ o hw fun c H' ss' w' o' ex hg => ?_⟩
  split
  · rename_i h; rw [if_pos h] at hg
    exact hf1 B R w' σ H' ss' G Q o' hg fun v2 H2 r2 s2 w2 o2 rr2 e2 g2 => hq v2 H2 r2 s2 w2 o2 rr2 (ex.trans e2) g2
  · rename_i h; rw [if_neg h] at hg
    exact hf2 B R w' σ H' ss' G Q o' hg fun v2 H2 r2 s2 w2 o2 rr2 e2 g2 => hq v2 H2 r2 s2 w2 o2 rr2 (ex.trans e2) g2
end
end Vl
namespace Vl
open PySem PySem.Spec L2
open PyProof.Rows hiding St

section
variable {X : Cx} {a b c e : Expr} {es : List Expr} {pos : Pos} {fa fb fc f : WE} {fv : WV} {fs : WA}
/-! ### displays, arguments -/
def fNil : WA := fun ss G => G [] ss
def fCons (fv : WV) (fs : WA) : WA := fun ss G => fv ss fun d s => fs s fun ds s => G (d :: ds) s
theorem da_nil : DA X [] fNil := ⟨_, pa_nil, fun B R w σ H ss G Q o hw hq => hq [] H [] ss w o rfl (.refl w) hw⟩
theorem da_cons (ha : DV X e fv) (hr : DA X es fs) (hs : starEach (e :: es) X.env = (false, eval e X.env) :: starEach es X.env := by rfl) : DA X (e :: es) (fCons fv fs) := by
  obtain ⟨t, p, hf⟩ := ha
  obtain ⟨t2, p2, hf2⟩ := hr
  refine ⟨_, pa_cons p p2 hs, fun B R w σ H ss G Q o hw hq => hf B R w σ H ss _ _ o hw fun v H1 d s1 w1 o1 r1 e1 h1 => ?_⟩
  exact hf2 B R w1 σ H1 s1 _ _ o1 h1 fun vs H2 ds s2 w2 o2 r2 e2 h2 => hq (v :: vs) H2 (d :: ds) s2 w2 o2 ⟨v, vs, rfl, r1.ext e2, r2⟩ (e1.trans e2) h2
def fTup (fs : WA) : WE := fun ss G => fs ss fun ds s => ds.length ≤ sizeLine ∧ G (.val (.tup ds)) s
def fLst (fs : WA) : WE := fun ss G => fs ss fun ds s => ds.length ≤ sizeLine ∧ G (.new (.lst ds)) s
theorem de_tup {x1} (h : DA X es fs) : DE X (.Tuple es x1 pos) (fTup fs) := by
  obtain ⟨t, p, hf⟩ := h
  refine ⟨_, pe_tup p, fun B R w σ H ss G Q o hw hq => hf B R w σ H ss _ _ o hw fun vs H1 ds s1 w1 o1 r1 e1 h1 => ⟨by rw [r1.length]; exact h1.1, fun p hp => ?_⟩⟩
  obtain ⟨o2, e2, r2⟩ := tup_ok o1 hp r1
  exact hq _ _ (.val (.tup ds)) s1 _ o2 r2 (e1.trans e2) h1.2
theorem de_lst (h : DA X es fs) : DE X (.List es pos) (fLst fs) := by
  obtain ⟨t, p, hf⟩ := h
  refine ⟨_, pe_lst p, fun B R w σ H ss G Q o hw hq => hf B R w σ H ss _ _ o hw fun vs H1 ds s1 w1 o1 r1 e1 h1 => ⟨by rw [r1.length]; exact h1.1, fun p hp => ?_⟩⟩
  obtain ⟨o2, r2⟩ := new_ok (c := .lst ds) o1 hp ⟨vs, upd_same, r1⟩
  exact hq _ _ (.new (.lst ds)) s1 w1 o2 r2 e1 h1.2
def fDnew : WE := fun ss G => G (.new (.dic [])) ss
theorem de_dnew : DE X (.Dict [] [] pos) fDnew := by
  refine ⟨_, pe_dnewK, fun B R w σ H ss G Q o hw hq p hp => ?_⟩
  obtain ⟨o2, r2⟩ := new_ok (c := .dic []) (u := .dK []) o hp ⟨[], upd_same, rfl⟩
  exact hq _ _ (.new (.dic [])) ss w o2 r2 (.refl w) hw

/-! ### operands held -/
def RepRs (B : Hp) (R : Addr → Prop) (w : Wd) (σ : St) (H : Hp) (ss : SS) : List Re → List V → Prop
  | [], vs => vs = []
  | r :: rs, vs => ∃ v us, vs = v :: us ∧ RepR B R w σ H ss r v ∧ RepRs B R w σ H ss rs us
def RepTs (w : Wd) (H : Hp) : List D → List V → Prop
  | [], vs => vs = []
  | d :: ds, vs => ∃ v us, vs = v :: us ∧ RepT w H d v ∧ RepTs w H ds us
abbrev WR := SS → (List Re → SS → Prop) → Prop
def DR (X : Cx) (es : List Expr) (f : WR) : Prop := ∃ t, PA X es t ∧ ∀ (B : Hp) (R : Addr → Prop) (w : Wd) (σ : St) (H : Hp) (ss : SS) (G : List Re → SS → Prop) (Q : List V → Hp → Prop), Ok B R w σ H ss → f ss G →
  (∀ vs H' rs ss' w', Ok B R w' σ H' ss' → RepRs B R w' σ H' ss' rs vs → Ext w w' → G rs ss' → Q vs H') → t σ H Q
def rNil : WR := fun ss G => G [] ss
def rCons (f : WE) (fs : WR) : WR := fun ss G => f ss fun r s => fs s fun rs s => G (r :: rs) s
theorem RepRs.weak {B B' : Hp} {R R' : Addr → Prop} {w : Wd} {σ : St} {H : Hp} {ss : SS} (hB : ∀ b, B' b = none → B b = none) (hR : ∀ a, R a → R' a) : ∀ {rs : List Re} {vs : List V}, RepRs B' R' w σ H ss rs vs → RepRs B R w σ H ss rs vs
  | [], _, h => h
  | r :: rs, _, ⟨v, us, e, h1, h2⟩ => ⟨v, us, e, h1.weak hB hR, RepRs.weak hB hR h2⟩
theorem dr_nil : DR X [] rNil := ⟨_, pa_nil, fun B R w σ H ss G Q o hw hq => hq [] H [] ss w o rfl (.refl w) hw⟩
theorem dr_cons {fs : WR} (ha : DE X e f) (hr : DR X es fs) (hs : starEach (e :: es) X.env = (false, eval e X.env) :: starEach es X.env := by rfl) : DR X (e :: es) (rCons f fs) := by
  obtain ⟨t, p, hf⟩ := ha
  obtain ⟨t2, p2, hf2⟩ := hr
  refine ⟨_, pa_cons p p2 hs, fun B R w σ H ss G Q o hw hq => hf B R w σ H ss _ _ o hw fun v H1 d s1 w1 o1 r1 e1 h1 => ?_⟩
  obtain ⟨B', R', o1', hB, hR, back⟩ := o1.hold r1
  refine hf2 B' R' w1 σ H1 s1 _ _ o1' h1 fun vs H2 ds s2 w2 o2 r2 e2 h2 => ?_
  obtain ⟨o2', r1'⟩ := back w2 H2 s2 o2 e2
  exact hq (v :: vs) H2 (d :: ds) s2 w2 o2' ⟨v, vs, rfl, r1', r2.weak hB hR⟩ (e1.trans e2) h2
def vws : List Re → SS → (List D → Prop) → Prop
  | [], _, k => k []
  | r :: rs, ss, k => vw r ss fun d => vws rs ss fun ds => k (d :: ds)
theorem vws_ok {B : Hp} {R : Addr → Prop} {w : Wd} {σ : St} {H : Hp} {ss : SS} (o : Ok B R w σ H ss) : ∀ {rs : List Re} {vs : List V} {k : List D → Prop}, RepRs B R w σ H ss rs vs → vws rs ss k → ∃ ds, RepTs w H ds vs ∧ k ds
  | [], _, k, h, hk => ⟨[], h, hk⟩
  | r :: rs, _, k, ⟨v, us, e, h1, h2⟩, hk => by
    obtain ⟨d, rd, hk⟩ := vw_ok o h1 hk
    obtain ⟨ds, rds, hk⟩ := vws_ok o h2 hk
    exact ⟨d :: ds, ⟨v, us, e, rd, rds⟩, hk⟩
abbrev KC := List D → (Re → Prop) → Prop
def CallX (r : List V → Hp → VK → Prop) (k : KC) : Prop := ∀ (w : Wd) (H : Hp) (ds : List D) (vs : List V) (P : Re → Prop) (Q : VK), Le w H → RepTs w H ds vs → k ds P → Fin w H P Q → r vs H Q
def fBlt (k : KC) (fs : WR) : WE := fun ss G => fs ss fun rs s => vws rs s fun ds => k ds fun r => G r s
variable {fr : WR} {x : Str} {p : Pos} {id T : String} {r : List V → Hp → VK → Prop} {k : KC}
theorem de_blt (hc : CallR X (.builtin id) r) (hk : CallX r k) (hm : X.mg x = none) (hv : bootBuiltins x = some (.builtin id)) (hg : Gl X x) (ha : DR X (e :: es) fr) (hn : x ≠ "__name__" := by decide) (hdb : (x == ("__debug__" : Str)) = false := by decide)
    (he : starEach (e :: es) X.env = (false, eval e X.env) :: starEach es X.env := by rfl) (hpl : (backTo pos (starEach es X.env)).any (·.1) = false := by rfl) : DE X (.Call (.Name x p) (e :: es) [] pos) (fBlt k fr) := by
  obtain ⟨t, pa, hf⟩ := ha
  refine ⟨_, pe_callB hc hg hm hv pa hn hdb he hpl, fun B R w σ H ss G Q o hw hq => hf B R w σ H ss _ _ o hw fun vs H1 rs s1 w1 o1 r1 e1 h1 => ?_⟩
  obtain ⟨ds, rd, hk'⟩ := vws_ok o1 r1 h1
  exact hk w1 H1 ds vs _ Q o1.le rd hk' (fin_of o1 e1 (fun _ h => h) hq)
theorem de_bty (hc : CallR X (.type T) r) (hk : CallX r k) (hm : X.mg x = none) (hv : bootBuiltins x = some (.type T)) (hg : Gl X x) (ha : DR X (e :: es) fr) (hn : x ≠ "__name__" := by decide) (hdb : (x == ("__debug__" : Str)) = false := by decide)
    (he : starEach (e :: es) X.env = (false, eval e X.env) :: starEach es X.env := by rfl) (hpl : (backTo pos (starEach es X.env)).any (·.1) = false := by rfl) : DE X (.Call (.Name x p) (e :: es) [] pos) (fBlt k fr) := by
  obtain ⟨t, pa, hf⟩ := ha
  refine ⟨_, pe_callTy hc hg hm hv pa hn hdb he hpl, fun B R w σ H ss G Q o hw hq => hf B R w σ H ss _ _ o hw fun vs H1 rs s1 w1 o1 r1 e1 h1 => ?_⟩
  obtain ⟨ds, rd, hk'⟩ := vws_ok o1 r1 h1
  exact hk w1 H1 ds vs _ Q o1.le rd hk' (fin_of o1 e1 (fun _ h => h) hq)
/-- one argument, two -/
def k1 (k : D → (Re → Prop) → Prop) : KC := fun ds P => match ds with
    | [d] => k d P
    | _ => False
def k2 (k : D → D → (Re → Prop) → Prop) : KC := fun ds P => match ds with
    | [d, d'] => k d d' P
    | _ => False
theorem callX1 {r : List V → Hp → VK → Prop} {k : D → (Re → Prop) → Prop} (h : ∀ (w : Wd) (H : Hp) (d : D) (v : V) (P : Re → Prop) (Q : VK), Le w H → RepT w H d v → k d P → Fin w H P Q → r [v] H Q) : CallX r (k1 k) := by
  intro w H ds vs P Q le rd hk hq
  cases ds with
  | nil => exact hk.elim
  | cons d ds =>
    cases ds with
    | nil =>
      obtain ⟨v, us, rfl, rv, e⟩ := rd
      subst e
      exact h w H d v P Q le rv hk hq
    | cons d' ds => exact hk.elim
theorem callX2 {r : List V → Hp → VK → Prop} {k : D → D → (Re → Prop) → Prop} (h : ∀ (w : Wd) (H : Hp) (d d' : D) (v v' : V) (P : Re → Prop) (Q : VK), Le w H → RepT w H d v → RepT w H d' v' → k d d' P → Fin w H P Q → r [v, v'] H Q) : CallX r (k2 k) := by
  intro w H ds vs P Q le rd hk hq
  cases ds with
  | nil => exact hk.elim
  | cons d ds =>
    cases ds with
    | nil => exact hk.elim
    | cons d' ds =>
      cases ds with
      | nil =>
        obtain ⟨v, us, rfl, rv, v', us', rfl, rv', e⟩ := rd
        subst e
        exact h w H d d' v v' P Q le rv rv' hk hq
      | cons d'' ds => exact hk.elim
/-- len -/
def kLen : KC := k1 fun d P => match d with
  | .lst xs => P (.val (.int xs.length))
  | .tup xs => P (.val (.int xs.length))
  | .str x => x.length ≤ sizeLine ∧ P (.val (.int x.length))
  | .dic kvs => P (.val (.int kvs.length))
  | _ => False
def rLenA (K : PySem.W.Frag) : List V → Hp → VK → Prop := fun xs H Q => (∃ x n, xs = [x] ∧ LenV K x H n ∧ Q (.int n) H) ∨ ∃ a kvs, xs = [.ref a] ∧ Rd H a (.dK kvs) ∧ Q (.int kvs.length) H
theorem call_lenR : CallR X (.builtin "len") (fun xs H Q => ∃ a kvs, xs = [.ref a] ∧ Rd H a (.dK kvs) ∧ Q (.int kvs.length) H) := by
  intro pins s σ H xs us Q I rs h
  obtain ⟨a, kvs, rfl, hd, q⟩ := h
  obtain ⟨u, rfl, r⟩ := vals1 rs
  cases r
  exact d_len I hd fun t s' I' => ⟨.int kvs.length, H, I', ⟨t, rfl⟩, q⟩
theorem cx_len : CallX (rLenA X.K) kLen := callX1 fun w H d v P Q le rd hk hq => by
  split at hk
  · obtain ⟨l, vs, rfl, h1, h2⟩ := rd
    exact .inl ⟨_, vs.length, rfl, .inl ⟨vs, .inl h1, rfl⟩, hq.old _ (.int _) rfl (by rw [h2.length]; exact hk)⟩
  · obtain ⟨l, vs, rfl, h1, h2⟩ := (show ∃ a vs, v = .ref a ∧ w.F a = some (.tup vs) ∧ RepL w _ vs from rd)
    exact .inl ⟨_, vs.length, rfl, .inr ⟨vs, .inl (le _ _ h1), rfl⟩, hq.old _ (.int _) rfl (by rw [h2.length]; exact hk)⟩
  · cases (show v = .str _ from rd)
    exact .inl ⟨_, _, rfl, ⟨hk.1, rfl⟩, hq.old _ (.int _) rfl hk.2⟩
  · obtain ⟨l, vs, rfl, h1, h2⟩ := (show ∃ a vs, v = .ref a ∧ Rd H a (.dK vs) ∧ RepK w _ vs from rd)
    exact .inr ⟨l, vs, rfl, h1, hq.old _ (.int _) rfl (by rw [h2.length]; exact hk)⟩
  · exact hk.elim
theorem de_len (hm : X.mg "len" = none) (hg : Gl X "len" := by rfl) (ha : DR X [e] fr) (he : starEach [e] X.env = [(false, eval e X.env)] := by rfl) : DE X (.Call (.Name "len" p) [e] [] pos) (fBlt kLen fr) :=
  de_blt (call_len.or call_lenR) cx_len hm boot_len hg ha (by decide) (by decide) he rfl
/-- list(x) -/
def kList : KC := k1 fun d P => match d with
  | .lst xs => P (.new (.lst xs))
  | .tup xs => P (.new (.lst xs))
  | _ => False
theorem cx_list : CallX (fun xs H Q => ∃ p ys, xs = [.ref p] ∧ (SqL X.K H p ys ∨ SqT X.K H p ys) ∧ ∀ l, H l = none → Q (.ref l) (upd H l (.lst ys))) kList := callX1 fun w H d v P Q le rd hk hq => by
  split at hk
  · obtain ⟨l, vs, rfl, h1, h2⟩ := rd
    exact ⟨l, vs, rfl, .inl (.inl h1), fun p hp => hq.new p _ (.lst _) hp ⟨vs, upd_same, h2⟩ hk⟩
  · obtain ⟨l, vs, rfl, h1, h2⟩ := (show ∃ a vs, v = .ref a ∧ w.F a = some (.tup vs) ∧ RepL w _ vs from rd)
    exact ⟨l, vs, rfl, .inr (.inl (le _ _ h1)), fun p hp => hq.new p _ (.lst _) hp ⟨vs, upd_same, h2⟩ hk⟩
  · exact hk.elim
/-- sum of intsD -/
def intsD : List D → Option (List Int)
  | [] => some []
  | .int i :: r => (intsD r).map (i :: ·)
  | _ => none
theorem ints_map : ∀ ns : List Int, intsD (ns.map D.int) = some ns
  | [] => rfl
  | n :: ns => by rw [List.map_cons, intsD, ints_map ns]; rfl
theorem ints_of : ∀ {ds : List D} {ns : List Int}, intsD ds = some ns → ds = ns.map D.int
  | [], ns, h => by cases h; rfl
  | d :: ds, ns, h => by
    cases d <;> first | (cases h; done) | skip
    rw [intsD] at h
    cases q : intsD ds with
    | none => rw [q] at h; cases h
    | some ms => rw [q] at h; cases h; rw [List.map_cons, ints_of q]
def kSum : KC := k1 fun d P => match d with
  | .lst xs => ∃ ns, intsD xs = some ns ∧ P (.val (.int ns.sum))
  | _ => False
theorem cx_sum : CallX (rSum X.K) kSum := callX1 fun w H d v P Q le rd hk hq => by
  split at hk
  · obtain ⟨ns, h, hp⟩ := hk
    obtain rfl := ints_of h
    obtain ⟨l, vs, rfl, h1, h2⟩ := rd
    obtain rfl := h2.ints
    exact ⟨l, ns, rfl, .inl h1, hq.old _ (.int _) rfl hp⟩
  · exact hk.elim
theorem de_sum (hc : X.calm = true) (hm : X.mg "sum" = none) (hg : Gl X "sum" := by rfl) (ha : DR X [e] fr) (he : starEach [e] X.env = [(false, eval e X.env)] := by rfl) : DE X (.Call (.Name "sum" p) [e] [] pos) (fBlt kSum fr) :=
  de_blt (cr_sum hc) cx_sum hm boot_sum hg ha (by decide) (by decide) he rfl
/-- max(a, b), min(a, b) -/
def kMx : KC := k2 fun a b P => match a, b with
  | .int i, .int j => P (.val (.int (if j > i then j else i)))
  | _, _ => False
def kMn : KC := k2 fun a b P => match a, b with
  | .int i, .int j => P (.val (.int (if j < i then j else i)))
  | _, _ => False
theorem cx_max2 : CallX (fun xs H Q => ∃ i j, xs = [.int i, .int j] ∧ Q (.int (if j > i then j else i)) H) kMx := callX2 fun w H d d' v v' P Q le rd rd' hk hq => by
  split at hk
  · cases (show v = .int _ from rd)
    cases (show v' = .int _ from rd')
    exact ⟨_, _, rfl, hq.old _ (.int _) rfl hk⟩
  · exact hk.elim
theorem cx_min2 : CallX (fun xs H Q => ∃ i j, xs = [.int i, .int j] ∧ Q (.int (if j < i then j else i)) H) kMn := callX2 fun w H d d' v v' P Q le rd rd' hk hq => by
  split at hk
  · cases (show v = .int _ from rd)
    cases (show v' = .int _ from rd')
    exact ⟨_, _, rfl, hq.old _ (.int _) rfl hk⟩
  · exact hk.elim
theorem de_max2 (hc : X.calm = true) (hm : X.mg "max" = none) (hg : Gl X "max" := by rfl) (ha : DR X [a, b] fr) (he : starEach [a, b] X.env = (false, eval a X.env) :: starEach [b] X.env := by rfl) (hpl : (backTo pos (starEach [b] X.env)).any (·.1) = false := by rfl) : DE X (.Call (.Name "max" p) [a, b] [] pos) (fBlt kMx fr) :=
  de_blt (call_max2 hc) cx_max2 hm boot_max hg ha (by decide) (by decide) he hpl
theorem de_min2 (hc : X.calm = true) (hm : X.mg "min" = none) (hg : Gl X "min" := by rfl) (ha : DR X [a, b] fr) (he : starEach [a, b] X.env = (false, eval a X.env) :: starEach [b] X.env := by rfl) (hpl : (backTo pos (starEach [b] X.env)).any (·.1) = false := by rfl) : DE X (.Call (.Name "min" p) [a, b] [] pos) (fBlt kMn fr) :=
  de_blt (call_min2 hc) cx_min2 hm boot_min hg ha (by decide) (by decide) he hpl
end
end Vl
namespace Vl
open PySem PySem.Spec L2
open PyProof.Rows hiding St

/-! ### defs -/
/-- what a def promises: its arguments, the cells, what is wanted -/
abbrev Ct := List D → List C → (Re → List C → Prop) → Prop
open Classical in
noncomputable def bOf (w : Wd) (H : Hp) : Hp := fun a => if a ∈ w.cs then none else H a
def rOf (w : Wd) (H : Hp) : Addr → Prop := fun a => (∃ o, H a = some o) ∧ w.F a = none ∧ a ∉ w.cs
def noSlo : Re → Prop
  | .slo _ => False
  | _ => True
structure Pre (w : Wd) (H : Hp) (S : List C) : Prop where
  le : Le w H
  ce : ∀ (n : Nat) (c : C), S[n]? = some c → ∃ a, w.cs[n]? = some a ∧ Cel w H a c
  cl : w.cs.length = S.length
  cf : ∀ a ∈ w.cs, w.F a = none
  cn : w.cs.Nodup
def Post (w : Wd) (H : Hp) (G : Re → List C → Prop) (v : V) (H' : Hp) : Prop :=
  ∃ r w' σ' ss', Ok (bOf w H) (rOf w H) w' σ' H' ss' ∧ RepR (bOf w H) (rOf w H) w' σ' H' ss' r v ∧ noSlo r ∧ Ext w w' ∧ G r ss'.S
def specOf (c : Ct) : Sp := fun vs H Q _ => ∃ (w : Wd) (ds : List D) (S : List C) (G : Re → List C → Prop), Pre w H S ∧ RepL w ds vs ∧ c ds S G ∧ ∀ v H', Post w H G v H' → Q v H'
theorem bOf_out {w : Wd} {H : Hp} {a : Addr} (h : a ∉ w.cs) : bOf w H a = H a := by unfold bOf; rw [if_neg h]
theorem bOf_in {w : Wd} {H : Hp} {a : Addr} (h : a ∈ w.cs) : bOf w H a = none := by unfold bOf; rw [if_pos h]
section
variable {B : Hp} {R : Addr → Prop} {w : Wd} {σ : St} {H : Hp} {ss : SS}
theorem Ok.pre (o : Ok B R w σ H ss) : Pre w H ss.S := ⟨o.le, o.ce, o.cl, fun a m => (o.cf a m).1, o.cn⟩
/-- behind a call -/
theorem Ok.called (o : Ok B R w σ H ss) {G : Re → List C → Prop} {v : V} {H' : Hp} (p : Post w H G v H') :
    ∃ r ss' w', Ok B R w' σ H' ss' ∧ RepR B R w' σ H' ss' r v ∧ Ext w w' ∧ ss'.r = ss.r ∧ G r ss'.S := by
  obtain ⟨r, w1, σ1, s1, o1, rr, ns, ex, g⟩ := p
  have own : ∀ (i : Nat) (c : C), ss.r[i]? = some (.own c) → rOf w H (w.os i) := fun i c e => by
    obtain ⟨_, cc, a3, _, _, a6⟩ := o.ow i c e
    exact ⟨cc.there, a3, a6⟩
  have ex1 : Ext w1 { F := w1.F, cs := w1.cs, os := w.os } := ⟨fun _ _ e => e, fun _ _ e => e⟩
  have ex2 : Ext w { F := w1.F, cs := w1.cs, os := w.os } := ⟨ex.F, ex.cs⟩
  refine ⟨r, { r := ss.r, S := s1.S }, { F := w1.F, cs := w1.cs, os := w.os }, ⟨o1.le, fun b u e => ?_, fun a h => ?_, fun i d e => ?_, fun i c e => ?_, o.oi, fun n c e => ?_, o1.cl, fun a m => ?_, o1.cn, o.ln⟩, ?_, ⟨ex.F, ex.cs⟩, rfl, g⟩
  · have hn : b ∉ w.cs := fun m => by rw [(o.cf b m).2] at e; cases e
    exact o1.bs b u (by rw [bOf_out hn]; exact o.bs b u e)
  · obtain ⟨a1, a2, a3⟩ := o.rs a h
    exact o1.rs a ⟨a3, a1, a2⟩
  · obtain ⟨v, a1, a2⟩ := o.vl i d e
    exact ⟨v, a1, a2.ext ex2⟩
  · obtain ⟨a1, a2, a3, a4, a5, a6⟩ := o.ow i c e
    obtain ⟨b1, b2, _⟩ := o1.rs _ (own i c e)
    obtain ⟨u, hu⟩ := a2.there
    refine ⟨a1, a2.ext ex2 ?_, b1, a4, a5, b2⟩
    rw [hu]
    exact o1.bs _ _ (by rw [bOf_out a6]; exact hu)
  · obtain ⟨a, a1, a2⟩ := o1.ce n c e
    exact ⟨a, a1, a2.ext ex1 rfl⟩
  · refine ⟨(o1.cf a m).1, ?_⟩
    have q := (o1.cf a m).2
    cases e : B a with
    | none => rfl
    | some u =>
      have hn : a ∉ w.cs := fun m' => by rw [(o.cf a m').2] at e; cases e
      rw [bOf_out hn, o.bs a u e] at q
      cases q
  · cases r with
    | val d => exact Rep.ext ex1 d v rr
    | slo i => exact ns.elim
    | new c =>
      obtain ⟨p, e0, x, h1, h2, h3, h4, _⟩ := rr
      have hB : B p = none := by
        cases e : B p with
        | none => rfl
        | some u =>
          have hn : p ∉ w.cs := fun m' => by rw [(o.cf p m').2] at e; cases e
          rw [bOf_out hn, o.bs p u e] at h2
          cases h2
      exact ⟨p, e0, x.ext ex1 rfl, h1, hB, fun r => h3 (by obtain ⟨a1, a2, a3⟩ := o.rs p r; exact ⟨a3, a1, a2⟩), h4, fun i c e z => h3 (z ▸ own i c e)⟩
end
section
variable {X : Cx} {e : Expr} {es : List Expr} {fs : WA} {c : Ct} {k j : Nat} {f : Addr} {fd : FuncData} {ps : List Str} {x : Str} {p pos : Pos} {ds : List Value} {dvs : List V} {dds : List D}
def fCall (c : Ct) (dds : List D) (fs : WA) : WE := fun ss G => fs ss fun ds s => c (ds ++ dds) s.S fun r S' => G r { r := s.r, S := S' }
theorem de_call (F : FnOk X.prog X.w X.K X.mg X.base CX0 k f fd ps (specOf c)) (hm : X.mg x = some (.ref f)) (hk : PySem.W.keepIn X.K (.ref f) = true) (hb : Binds X.K fd ps ds) (hd : Vals dvs ds) (hdd : ∀ w, RepL w dds dvs) (hr : Room j X.A) (hj : k ≤ j) (hg : Gl X x)
    (ha : DA X (e :: es) fs) (hdb : (x == ("__debug__" : Str)) = false := by decide) (he : starEach (e :: es) X.env = (false, eval e X.env) :: starEach es X.env := by rfl) (hpl : (backTo pos (starEach es X.env)).any (·.1) = false := by rfl) :
    DE X (.Call (.Name x p) (e :: es) [] pos) (fCall c dds fs) := by
  obtain ⟨t, pa, hf⟩ := ha
  refine ⟨_, pe_call F (hr.mono hj) hg hm hk hb hd pass0 pa hdb he hpl, fun B R w σ H ss G Q o hw hq => hf B R w σ H ss _ _ o hw fun vs H1 ds s1 w1 o1 r1 e1 h1 => ?_⟩
  refine ⟨w1, ds ++ dds, s1.S, _, o1.pre, r1.append (hdd w1), h1, fun v H' p => ?_⟩
  obtain ⟨r, s2, w2, o2, r2, e2, hs, g⟩ := o1.called p
  refine hq v H' r s2 w2 o2 r2 (e1.trans e2) ?_
  have : s2 = { r := s1.r, S := s2.S } := by rw [← hs]
  rw [this]; exact g
theorem de_call0 (F : FnOk X.prog X.w X.K X.mg X.base CX0 k f fd ps (specOf c)) (hm : X.mg x = some (.ref f)) (hk : PySem.W.keepIn X.K (.ref f) = true) (hb : Binds X.K fd ps ds) (hd : Vals dvs ds) (hdd : ∀ w, RepL w dds dvs) (hr : Room j X.A) (hj : k ≤ j) (hg : Gl X x)
    (hdb : (x == ("__debug__" : Str)) = false := by decide) : DE X (.Call (.Name x p) [] [] pos) (fCall c dds fNil) := by
  refine ⟨_, pe_call0 F (hr.mono hj) hg hm hk hb hd pass0 hdb, fun B R w σ H ss G Q o hw hq => ?_⟩
  refine ⟨w, [] ++ dds, ss.S, _, o.pre, hdd w, hw, fun v H' p => ?_⟩
  obtain ⟨r, s2, w2, o2, r2, e2, hs, g⟩ := o.called p
  refine hq v H' r s2 w2 o2 r2 e2 ?_
  have : s2 = { r := ss.r, S := s2.S } := by rw [← hs]
  rw [this]; exact g
end

/-! ### statements -/
structure En where
  nx : SS → Prop
  rt : Re → List C → Prop
  bk : SS → Prop
  ct : SS → Prop
abbrev WS := En → SS → Prop
structure Lands (B : Hp) (R : Addr → Prop) (w : Wd) (E : En) (D : Ends) : Prop where
  nx : ∀ σ' H' ss' w', Ok B R w' σ' H' ss' → Ext w w' → E.nx ss' → D.nx σ' H'
  rt : ∀ v σ' H' r ss' w', Ok B R w' σ' H' ss' → RepR B R w' σ' H' ss' r v → noSlo r → Ext w w' → E.rt r ss'.S → D.rt v H'
  bk : ∀ σ' H' ss' w', Ok B R w' σ' H' ss' → Ext w w' → E.bk ss' → D.bk σ' H'
  ct : ∀ σ' H' ss' w', Ok B R w' σ' H' ss' → Ext w w' → E.ct ss' → D.ct σ' H'
theorem Lands.ext {B : Hp} {R : Addr → Prop} {w w1 : Wd} {E : En} {D : Ends} (l : Lands B R w E D) (e : Ext w w1) : Lands B R w1 E D :=
  ⟨fun σ' H' ss' w' o x h => l.nx σ' H' ss' w' o (e.trans x) h, fun v σ' H' r ss' w' o rr ns x h => l.rt v σ' H' r ss' w' o rr ns (e.trans x) h, fun σ' H' ss' w' o x h => l.bk σ' H' ss' w' o (e.trans x) h, fun σ' H' ss' w' o x h => l.ct σ' H' ss' w' o (e.trans x) h⟩
def DS (X : Cx) (st : Stmt) (f : WS) : Prop := ∃ t, PS X st t ∧ ∀ (B : Hp) (R : Addr → Prop) (w : Wd) (σ : St) (H : Hp) (ss : SS) (E : En) (D : Ends), Ok B R w σ H ss → f E ss → Lands B R w E D → t D σ H
def DSs (X : Cx) (st : List Stmt) (f : WS) : Prop := ∃ t, PSs X st t ∧ ∀ (B : Hp) (R : Addr → Prop) (w : Wd) (σ : St) (H : Hp) (ss : SS) (E : En) (D : Ends), Ok B R w σ H ss → f E ss → Lands B R w E D → t D σ H
section
variable {X : Cx} {st : Stmt} {rest : List Stmt} {f g : WS} {e : Expr} {fe : WE} {pos pos' : Pos}
def sNil : WS := fun E ss => E.nx ss
def sSeq (f g : WS) : WS := fun E ss => f { E with nx := g E } ss
theorem dss_nil : DSs X [] sNil := ⟨_, pss_nil, fun B R w σ H ss E D o h l => l.nx σ H ss w o (.refl w) h⟩
theorem dss_cons (h1 : DS X st f) (h2 : DSs X rest g) : DSs X (st :: rest) (sSeq f g) := by
  obtain ⟨t, p, hf⟩ := h1
  obtain ⟨u, q, hg⟩ := h2
  refine ⟨_, pss_cons p q, fun B R w σ H ss E D o h l => hf B R w σ H ss _ _ o h ⟨fun σ' H' ss' w' o' x h' => ?_, l.rt, l.bk, l.ct⟩⟩
  exact hg B R w' σ' H' ss' E D o' h' (l.ext x)
theorem dss_one (h1 : DS X st f) : DSs X [st] f := by
  obtain ⟨t, p, hf⟩ := h1
  exact ⟨_, pss_one p, hf⟩
def sPass : WS := fun E ss => E.nx ss
def sBreak : WS := fun E ss => E.bk ss
def sCont : WS := fun E ss => E.ct ss
def sNever : WS := fun _ _ => False
theorem ds_pass : DS X (.Pass pos) sPass := ⟨_, ps_pass, fun B R w σ H ss E D o h l => l.nx σ H ss w o (.refl w) h⟩
theorem ds_break : DS X (.Break pos) sBreak := ⟨_, ps_break, fun B R w σ H ss E D o h l => l.bk σ H ss w o (.refl w) h⟩
theorem ds_cont : DS X (.Continue pos) sCont := ⟨_, ps_continue, fun B R w σ H ss E D o h l => l.ct σ H ss w o (.refl w) h⟩
theorem ds_never : DS X st sNever := ⟨_, ps_never, fun B R w σ H ss E D o h l => h.elim⟩
def sDrop (fe : WE) : WS := fun E ss => fe ss fun _ s => E.nx s
theorem ds_expr (h : DE X e fe) (hs : swapsWith e none pos.line X.env = pure false := by rfl) : DS X (.Expr e pos) (sDrop fe) := by
  obtain ⟨t, p, hf⟩ := h
  exact ⟨_, ps_expr p hs, fun B R w σ H ss E D o hw l => hf B R w σ H ss _ _ o hw fun v H' r ss' w' o' rr ex h => l.nx σ H' ss' w' o' ex h⟩
def rtn (r : Re) (ss : SS) (k : Re → List C → Prop) : Prop := match r with
  | .slo i => (match ss.r[i]? with
    | some (.own c) => k (.new c) ss.S
    | some (.val d) => k (.val d) ss.S
    | _ => False)
  | r => k r ss.S
def sRet (fe : WE) : WS := fun E ss => fe ss fun r s => rtn r s E.rt
theorem rtn_ok {B : Hp} {R : Addr → Prop} {w : Wd} {σ : St} {H : Hp} {ss : SS} (o : Ok B R w σ H ss) {r : Re} {v : V} (h : RepR B R w σ H ss r v) {k : Re → List C → Prop} (hk : rtn r ss k) :
    ∃ r' ss', Ok B R w σ H ss' ∧ RepR B R w σ H ss' r' v ∧ noSlo r' ∧ k r' ss'.S := by
  cases r with
  | val d => exact ⟨.val d, ss, o, h, trivial, hk⟩
  | new c => exact ⟨.new c, ss, o, h, trivial, hk⟩
  | slo i =>
    have h : σ[i]? = some (some v) := h
    cases e : ss.r[i]? with
    | none => unfold rtn at hk; simp only [e] at hk
    | some x =>
      cases x with
      | no => unfold rtn at hk; simp only [e] at hk
      | val d =>
        unfold rtn at hk; simp only [e] at hk
        obtain ⟨v', a1, a2⟩ := o.vl i d e
        rw [h] at a1; cases a1
        exact ⟨.val d, ss, o, a2, trivial, hk⟩
      | own c =>
        unfold rtn at hk; simp only [e] at hk
        obtain ⟨a1, x, h1, h2, h3, h4⟩ := o.ow i c e
        rw [h] at a1; cases a1
        have o1 : Ok B R w σ H { ss with r := ss.r.set i .no } := o.slots (by rw [List.length_set]; exact o.ln) (fun j d q => by
          rcases set_get q with ⟨_, q, _⟩ | ⟨_, q⟩
          · cases q
          · exact o.vl j d q) (fun j c' q => by
          rcases set_get q with ⟨_, q, _⟩ | ⟨_, q⟩
          · cases q
          · exact ⟨q, rfl⟩)
        refine ⟨.new c, _, o1, ⟨_, rfl, x, h1, h2, h3, h4, fun j c' q z => ?_⟩, trivial, hk⟩
        rcases set_get q with ⟨_, q, _⟩ | ⟨ne, q⟩
        · cases q
        · exact ne (o.oi j i c' c q e z)
theorem ds_ret (h : DE X e fe) : DS X (.Return (some e) pos) (sRet fe) := by
  obtain ⟨t, p, hf⟩ := h
  refine ⟨_, ps_ret p, fun B R w σ H ss E D o hw l => hf B R w σ H ss _ _ o hw fun v H' r ss' w' o' rr ex h => ?_⟩
  obtain ⟨r', s2, o2, r2, ns, hk⟩ := rtn_ok o' rr h
  exact l.rt v σ H' r' s2 w' o2 r2 ns ex hk
def sRetN : WS := fun E ss => E.rt (.val .non) ss.S
theorem ds_retN : DS X (.Return none pos) sRetN := ⟨_, ps_retN, fun B R w σ H ss E D o h l => l.rt .non σ H (.val .non) ss w o rfl trivial (.refl w) h⟩
def sIf (g : WT) (f1 f2 : WS) : WS := fun E ss => g ss fun c s => if c = true then f1 E s else f2 E s
theorem ds_if {c : Expr} {a b : List Stmt} {gc : WT} {f1 f2 : WS} (hc : DT X c gc) (ha : DSs X a f1) (hb : DSs X b f2) : DS X (.If c a b pos) (sIf gc f1 f2) := by
  obtain ⟨t, p, hf⟩ := hc
  obtain ⟨t1, p1, hf1⟩ := ha
  obtain ⟨t2, p2, hf2⟩ := hb
  refine ⟨_, ps_if p p1 p2, fun B R w σ H ss E D o hw l => hf B R w σ H ss _ _ o hw fun c H' ss' w' o' ex h => ?_⟩
  split
  · rename_i hc; rw [if_pos hc] at h
    exact hf1 B R w' σ H' ss' E D o' h (l.ext ex)
  · rename_i hc; rw [if_neg hc] at h
    exact hf2 B R w' σ H' ss' E D o' h (l.ext ex)
/-- a slot takes a result -/
def setS (i : Nat) (r : Re) (ss : SS) (k : SS → Prop) : Prop := match r with
  | .val d => k { ss with r := ss.r.set i (.val d) }
  | .new c => k { ss with r := ss.r.set i (.own c) }
  | .slo j => fz (.slo j) ss fun d s => k { s with r := s.r.set i (.val d) }
theorem set_val {B : Hp} {R : Addr → Prop} {w : Wd} {σ : St} {H : Hp} {ss : SS} (o : Ok B R w σ H ss) {d : D} {v : V} (h : Rep w d v) (i : Nat) : Ok B R w (σ.set i (some v)) H { ss with r := ss.r.set i (.val d) } :=
  o.slots (by rw [List.length_set, List.length_set]; exact o.ln) (fun j d' q => by
    rcases set_get q with ⟨e1, e2, lt⟩ | ⟨ne, q⟩
    · cases e2
      rw [e1]
      exact ⟨v, List.getElem?_set_self (by rw [← o.ln]; exact lt), h⟩
    · obtain ⟨v', a1, a2⟩ := o.vl j d' q
      exact ⟨v', by rw [List.getElem?_set_ne (fun z => ne z.symm)]; exact a1, a2⟩) (fun j c q => by
    rcases set_get q with ⟨_, e2, _⟩ | ⟨ne, q⟩
    · cases e2
    · exact ⟨q, by rw [List.getElem?_set_ne (fun z => ne z.symm)]⟩)
theorem set_ok {B : Hp} {R : Addr → Prop} {w : Wd} {σ : St} {H : Hp} {ss : SS} (o : Ok B R w σ H ss) {r : Re} {v : V} (h : RepR B R w σ H ss r v) {i : Nat} {k : SS → Prop} (hk : setS i r ss k) :
    ∃ ss' w', Ok B R w' (σ.set i (some v)) H ss' ∧ Ext w w' ∧ k ss' := by
  cases r with
  | val d => exact ⟨_, w, set_val o h i, .refl w, hk⟩
  | slo j =>
    obtain ⟨d, s2, w2, o2, e2, r2, hk⟩ := fz_ok o h (show fz (.slo j) ss fun d s => k { s with r := s.r.set i (.val d) } from hk)
    exact ⟨_, w2, set_val o2 r2 i, e2, hk⟩
  | new c =>
    obtain ⟨p, rfl, x, h1, h2, h3, h4, h5⟩ := h
    -- the slot forgotten, its place told anew
    have ex : Ext w { w with os := fun j => if j = i then p else w.os j } := ⟨fun _ _ e => e, fun _ _ e => e⟩
    refine ⟨{ ss with r := ss.r.set i (.own c) }, { w with os := fun j => if j = i then p else w.os j }, ⟨o.le, o.bs, o.rs, fun j d q => ?_, fun j c' q => ?_, fun j l c1 c2 q1 q2 e => ?_, fun n c' q => ?_, o.cl, o.cf, o.cn, by rw [List.length_set, List.length_set]; exact o.ln⟩, ex, hk⟩
    · rcases set_get q with ⟨_, e2, _⟩ | ⟨ne, q⟩
      · cases e2
      · obtain ⟨v', a1, a2⟩ := o.vl j d q
        exact ⟨v', by rw [List.getElem?_set_ne (fun z => ne z.symm)]; exact a1, a2.ext ex⟩
    · have key : ∀ a : Addr, (if j = i then p else w.os j) = a → ((σ.set i (some (.ref p)))[j]? = some (some (.ref a)) ∧ Cel { w with os := fun j => if j = i then p else w.os j } H a c' ∧ w.F a = none ∧ B a = none ∧ ¬ R a ∧ a ∉ w.cs) →
          ((σ.set i (some (.ref p)))[j]? = some (some (.ref (if j = i then p else w.os j))) ∧ Cel { w with os := fun j => if j = i then p else w.os j } H (if j = i then p else w.os j) c' ∧ w.F (if j = i then p else w.os j) = none ∧ B (if j = i then p else w.os j) = none ∧ ¬ R (if j = i then p else w.os j) ∧ (if j = i then p else w.os j) ∉ w.cs) := fun a e h => by
        rw [e]; exact h
      rcases set_get q with ⟨e1, e2, lt⟩ | ⟨ne, q⟩
      · cases e2
        refine key p (if_pos e1) ⟨?_, x.ext ex rfl, h1, h2, h3, h4⟩
        rw [e1]; exact List.getElem?_set_self (by rw [← o.ln]; exact lt)
      · obtain ⟨a1, a2, a3⟩ := o.ow j c' q
        exact key (w.os j) (if_neg ne) ⟨by rw [List.getElem?_set_ne (fun z => ne z.symm)]; exact a1, a2.ext ex rfl, a3⟩
    · have e : (if j = i then p else w.os j) = (if l = i then p else w.os l) := e
      rcases set_get q1 with ⟨e1, e2, lt⟩ | ⟨ne, q1⟩
      · rcases set_get q2 with ⟨e1', _, _⟩ | ⟨ne', q2⟩
        · rw [e1, e1']
        · rw [if_pos e1, if_neg ne'] at e
          exact (h5 l c2 q2 e.symm).elim
      · rcases set_get q2 with ⟨e1', _, _⟩ | ⟨ne', q2⟩
        · rw [if_neg ne, if_pos e1'] at e
          exact (h5 j c1 q1 e).elim
        · rw [if_neg ne, if_neg ne'] at e
          exact o.oi j l c1 c2 q1 q2 e
    · obtain ⟨a, a1, a2⟩ := o.ce n c' q
      exact ⟨a, a1, a2.ext ex rfl⟩
def sSet (i : Nat) (fe : WE) : WS := fun E ss => fe ss fun r s => setS i r s E.nx
theorem ds_set {i : Nat} {x : Str} (hN : X.N.Nodup) (h : DE X e fe) (hi : X.N[i]? = some x := by rfl) (hx : Loc X.env.scope x := by first | exact Or.inl rfl | exact Or.inr rfl) (hs : swapsWith e (some (.Name x pos')) pos.line X.env = pure false := by rfl) (hf : X.fn x = true ∨ X.env.scope.names.lookup x = some .local := by first | exact .inl rfl | exact .inr rfl) :
    DS X (.Assign [.Name x pos'] e pos) (sSet i fe) := by
  obtain ⟨t, p, hf'⟩ := h
  refine ⟨_, ps_set hN hi hx p hs hf, fun B R w σ H ss E D o hw l => hf' B R w σ H ss _ _ o hw fun v H' r ss' w' o' rr ex h => ?_⟩
  obtain ⟨s2, w2, o2, e2, hk⟩ := set_ok o' rr h
  exact l.nx _ H' s2 w2 o2 (ex.trans e2) hk
/-- .. as a cell -/
def sSetC (i : Nat) (fe : WE) : WS := fun E ss => fe ss fun r s => toCell r s fun d s => E.nx { s with r := s.r.set i (.val d) }
theorem ds_setC {i : Nat} {x : Str} (hN : X.N.Nodup) (h : DE X e fe) (hi : X.N[i]? = some x := by rfl) (hx : Loc X.env.scope x := by first | exact Or.inl rfl | exact Or.inr rfl) (hs : swapsWith e (some (.Name x pos')) pos.line X.env = pure false := by rfl) (hf : X.fn x = true ∨ X.env.scope.names.lookup x = some .local := by first | exact .inl rfl | exact .inr rfl) :
    DS X (.Assign [.Name x pos'] e pos) (sSetC i fe) := by
  obtain ⟨t, p, hf'⟩ := h
  refine ⟨_, ps_set hN hi hx p hs hf, fun B R w σ H ss E D o hw l => hf' B R w σ H ss _ _ o hw fun v H' r ss' w' o' rr ex h => ?_⟩
  obtain ⟨d, s2, w2, o2, e2, r2, hk⟩ := celled o' rr h
  exact l.nx _ H' _ w2 (set_val o2 r2 i) (ex.trans e2) hk
/-- while -/
def sWhile (g : WT) (f : WS) : WS := fun E ss => ∃ I : Nat → SS → Prop, (∃ m, I m ss) ∧ ∀ m s, I m s → g s fun c s1 => if c = true then f { E with nx := fun s' => ∃ m', m' < m ∧ I m' s', ct := fun s' => ∃ m', m' < m ∧ I m' s', bk := E.nx } s1 else E.nx s1
theorem ds_while {c : Expr} {body : List Stmt} {gc : WT} (hp : PassesOwn (model X.prog X.w) X.A X.env X.xe) (hc : DT X c gc) (hb : DSs X body f) : DS X (.While c body [] pos) (sWhile gc f) := by
  obtain ⟨t, p, hf⟩ := hc
  obtain ⟨t1, p1, hf1⟩ := hb
  refine ⟨_, ps_while hp p p1, fun B R w σ H ss E D o hw l => ?_⟩
  obtain ⟨I, ⟨m0, i0⟩, turn⟩ := hw
  refine ⟨fun m σ' H' => ∃ ss' w', Ok B R w' σ' H' ss' ∧ Ext w w' ∧ I m ss', ⟨m0, ss, w, o, .refl w, i0⟩, ?_⟩
  rintro m σ1 H1 ⟨s1, w1, o1, e1, i1⟩
  refine hf B R w1 σ1 H1 s1 _ _ o1 (turn m s1 i1) fun c H2 s2 w2 o2 e2 h2 => ?_
  split
  · rename_i hc; rw [if_pos hc] at h2
    refine ⟨fun σ' H' => ∃ m', m' < m ∧ ∃ ss' w', Ok B R w' σ' H' ss' ∧ Ext w w' ∧ I m' ss', fun σ' H' h => h, ?_⟩
    refine hf1 B R w2 σ1 H2 s2 _ _ o2 h2 ⟨fun σ' H' ss' w' o' x ⟨m', lt, i'⟩ => ⟨m', lt, ss', w', o', e1.trans (e2.trans x), i'⟩, (l.ext (e1.trans e2)).rt, (l.ext (e1.trans e2)).nx, fun σ' H' ss' w' o' x ⟨m', lt, i'⟩ => ⟨m', lt, ss', w', o', e1.trans (e2.trans x), i'⟩⟩
  · rename_i hc; rw [if_neg hc] at h2
    exact l.nx σ1 H2 s2 w2 o2 (e1.trans e2) h2
end
end Vl
namespace Vl
open PySem PySem.Spec L2
open PyProof.Rows hiding St

/-! ### targets -/
abbrev WG := D → SS → (SS → Prop) → Prop
abbrev WGs := List D → SS → (SS → Prop) → Prop
/-- the slots vs are those that it stores -/
def DG (X : Cx) (vs : List Nat) (tg : Expr) (g : WG) : Prop := ∃ t, PG X tg t ∧ ∀ (B : Hp) (R : Addr → Prop) (w : Wd) (σ : St) (H : Hp) (ss : SS) (d : D) (v : V) (K : SS → Prop) (Q : St → Hp → Prop), Ok B R w σ H ss → Rep w d v → g d ss K →
  (∀ σ' H' ss' w', Ok B R w' σ' H' ss' → Ext w w' → (∀ us : List Nat, (∀ i ∈ vs, i ∈ us) → wipe σ' us = wipe σ us) → K ss' → Q σ' H') → t v σ H Q
def DGs (X : Cx) (vs : List Nat) (ts : List Expr) (g : WGs) : Prop := ∃ t, PGs X ts t ∧ ∀ (B : Hp) (R : Addr → Prop) (w : Wd) (σ : St) (H : Hp) (ss : SS) (ds : List D) (us : List V) (K : SS → Prop) (Q : St → Hp → Prop), Ok B R w σ H ss → RepL w ds us → g ds ss K →
  (∀ σ' H' ss' w', Ok B R w' σ' H' ss' → Ext w w' → (∀ us : List Nat, (∀ i ∈ vs, i ∈ us) → wipe σ' us = wipe σ us) → K ss' → Q σ' H') → t us σ H Q
theorem wipe_set {σ : St} {i : Nat} {x : Option V} : ∀ {us : List Nat}, i ∈ us → wipe (σ.set i x) us = wipe σ us
  | u :: us, h => by
    unfold wipe
    by_cases m : i ∈ us
    · rw [wipe_set m]
    · have e : i = u := by
        rcases List.mem_cons.mp h with e | h
        · exact e
        · exact (m h).elim
      subst e
      have : ∀ {l : List Nat}, i ∉ l → wipe (σ.set i x) l = (wipe σ l).set i x := by
        intro l
        induction l with
        | nil => intro _; rfl
        | cons a l ih =>
          intro hn
          unfold wipe
          rw [ih (fun z => hn (List.mem_cons_of_mem _ z)), List.set_comm _ _ (by intro z; subst z; exact hn List.mem_cons_self)]
      rw [this m, List.set_set]
section
variable {X : Cx} {e : Expr} {es : List Expr} {pos : Pos} {vs vs' : List Nat} {g : WG} {gs : WGs}
def gNm (i : Nat) : WG := fun d s K => K { s with r := s.r.set i (.val d) }
theorem dg_name (i : Nat) {x : Str} (hN : X.N.Nodup) (hi : X.N[i]? = some x := by rfl) (hx : Loc X.env.scope x := by first | exact Or.inl rfl | exact Or.inr rfl) (hf : X.fn x = true ∨ X.env.scope.names.lookup x = some .local := by first | exact .inl rfl | exact .inr rfl) : DG X [i] (.Name x pos) (gNm i) :=
  ⟨_, pg_name hN hi hx hf, fun B R w σ H ss d v K Q o r hg hq => hq _ H _ w (set_val o r i) (.refl w) (fun us h => wipe_set (h i List.mem_cons_self)) hg⟩
def gsNil : WGs := fun ds s K => ds = [] ∧ K s
def gsCons (g : WG) (gs : WGs) : WGs := fun ds s K => match ds with
  | d :: ds => g d s fun s => gs ds s K
  | [] => False
theorem dgs_nil : DGs X [] [] gsNil := by
  refine ⟨_, pgs_nil, fun B R w σ H ss ds us K Q o r hg hq => ?_⟩
  obtain ⟨rfl, hg⟩ := hg
  exact ⟨r, hq σ H ss w o (.refl w) (fun _ _ => rfl) hg⟩
theorem dgs_cons (h1 : DG X vs e g) (h2 : DGs X vs' es gs) (hs : (assignEach (e :: es) X.env).map (·.2) = assign e X.env :: (assignEach es X.env).map (·.2) := by rfl) : DGs X (vs ++ vs') (e :: es) (gsCons g gs) := by
  obtain ⟨t, p, hf⟩ := h1
  obtain ⟨t2, p2, hf2⟩ := h2
  refine ⟨_, pgs_cons p p2 hs, fun B R w σ H ss ds us K Q o r hg hq => ?_⟩
  cases ds with
  | nil => exact hg.elim
  | cons d ds =>
    obtain ⟨v, us, rfl, r1, r2⟩ := r
    refine ⟨v, us, rfl, hf B R w σ H ss d v _ _ o r1 hg fun σ' H' s1 w1 o1 e1 q1 h1 => ?_⟩
    refine hf2 B R w1 σ' H' s1 ds us _ _ o1 (r2.ext e1) h1 fun σ2 H2 s2 w2 o2 e2 q2 h2 => ?_
    exact hq σ2 H2 s2 w2 o2 (e1.trans e2) (fun us h => (q2 us fun i m => h i (List.mem_append_right _ m)).trans (q1 us fun i m => h i (List.mem_append_left _ m))) h2
def gTp (n : Nat) (gs : WGs) : WG := fun d s K => match d with
  | .tup ds => ds.length = n ∧ gs ds s K
  | _ => False
theorem dg_tup {k n : Nat} (hc : X.calm = true) (h : DGs X vs es gs) (hn : (assignEach es X.env).length = n := by rfl) (hst : (assignEach es X.env).findIdx? (·.1) = none := by rfl) : DG X vs (.Tuple es k pos) (gTp n gs) := by
  obtain ⟨t, p, hf⟩ := h
  refine ⟨_, pg_tup hc p hn hst, fun B R w σ H ss d v K Q o r hg hq => ?_⟩
  unfold gTp at hg
  split at hg
  · obtain ⟨a, us, rfl, h1, h2⟩ := r
    exact ⟨a, us, rfl, .inl (o.le _ _ h1), h2.length.trans hg.1, hf B R w σ H ss _ us K Q o h2 hg.2 hq⟩
  · exact hg.elim
/-- target = value -/
def sAsg (fe : WE) (g : WG) : WS := fun E ss => fe ss fun r s => fz r s fun d s => g d s E.nx
theorem ds_asg {tg : Expr} {fe : WE} (h : DE X e fe) (hg : DG X vs tg g) (hs : swapsWithSole [tg] e pos.line X.env = pure false := by rfl) (hw : swappedStores [tg] e X.env = pure none := by rfl)
    (h1 : (assignEach [tg] X.env).map (·.2) = [assign tg X.env] := by rfl) : DS X (.Assign [tg] e pos) (sAsg fe g) := by
  obtain ⟨t, p, hf⟩ := h
  obtain ⟨t2, p2, hf2⟩ := hg
  refine ⟨_, ps_asg p p2 hs hw h1, fun B R w σ H ss E D o hw l => hf B R w σ H ss _ _ o hw fun v H1 r s1 w1 o1 r1 e1 h1 => ?_⟩
  obtain ⟨d, s2, w2, o2, e2, r2, hk⟩ := fz_ok o1 r1 h1
  exact hf2 B R w2 σ H1 s2 d v _ _ o2 r2 hk fun σ' H' s3 w3 o3 e3 _ h3 => l.nx σ' H' s3 w3 o3 (e1.trans (e2.trans e3)) h3
/-- a, b = x, y -/
def sPar (i j : Nat) (fa fb : WE) : WS := fun E ss => f2 fa fb (fun a b s => setS i a s fun s => setS j b s E.nx) ss
end

/-! ### dicts that are walked stand still -/
def Unl (X : Cx) (P : Hp → Prop) (H : Hp) : Prop := P H ∨ ∃ d o u, H d = some (.frz o u) ∧ (∀ o' u', X.H_0 d ≠ some (.frz o' u')) ∧ P (upd H d u)
def tUnl (X : Cx) (t : TS) : TS := fun D σ H => t ⟨fun σ' H' => Unl X (D.nx σ') H', fun v H' => Unl X (D.rt v) H', fun σ' H' => Unl X (D.bk σ') H', fun σ' H' => Unl X (D.ct σ') H'⟩ σ H
def tUnlE (X : Cx) (t : TE) : TE := fun σ H Q => t σ H fun v H' => Unl X (Q v) H'
theorem unl_ok {X : Cx} {pins : List (Addr × Obj)} {σ : St} {H : Hp} {s : Shared} {P : Hp → Prop} (I : Inv X pins σ H s) (h : Unl X P H) : ∃ H', Inv X pins σ H' s ∧ P H' := by
  rcases h with h | ⟨d, o, u, h1, h2, h3⟩
  · exact ⟨H, I, h⟩
  · exact ⟨_, I.unlock h1 h2, h3⟩
theorem ps_unl {X : Cx} {st : Stmt} {t : TS} (h : PS X st t) : PS X st (tUnl X t) := by
  refine ⟨fun pins s σ H D I hw => thn (h.run pins s σ H _ I hw) fun f s1 q => ?_⟩
  cases f with
  | next => obtain ⟨σ', H', I2, q⟩ := q; obtain ⟨H2, I3, q⟩ := unl_ok I2 q; exact ⟨σ', H2, I3, q⟩
  | brk => obtain ⟨σ', H', I2, q⟩ := q; obtain ⟨H2, I3, q⟩ := unl_ok I2 q; exact ⟨σ', H2, I3, q⟩
  | cont => obtain ⟨σ', H', I2, q⟩ := q; obtain ⟨H2, I3, q⟩ := unl_ok I2 q; exact ⟨σ', H2, I3, q⟩
  | ret v => obtain ⟨x, σ', H', I2, r, q⟩ := q; obtain ⟨H2, I3, q⟩ := unl_ok I2 q; exact ⟨x, σ', H2, I3, r, q⟩
theorem pe_unl {X : Cx} {e : Expr} {t : TE} (h : PE X e t) : PE X e (tUnlE X t) := by
  refine ⟨fun pins s σ H Q I hw => thn (h.run pins s σ H _ I hw) fun v s1 ⟨x, H1, I2, r, q⟩ => ?_⟩
  obtain ⟨H2, I3, q⟩ := unl_ok I2 q
  exact ⟨x, H2, I3, r, q⟩

/-! ### what is walked -/
/-- from the walk's frame back to the frame before -/
def Back (X : Cx) (B : Hp) (R : Addr → Prop) (B1 : Hp) (R1 : Addr → Prop) (w1 : Wd) : Prop :=
  ∀ (w' : Wd) (σ' : St) (H' : Hp) (ss' : SS), Ok B1 R1 w' σ' H' ss' → Ext w1 w' → ∀ P : Hp → Prop, (∀ H'', Ok B R w' σ' H'' ss' → (∀ r v, RepR B1 R1 w' σ' H' ss' r v → RepR B R w' σ' H'' ss' r v) → P H'') → Unl X P H'
/-- the items come one by one -/
def Runs (B1 : Hp) (R1 : Addr → Prop) (w1 : Wd) (J : It) (ds : List D) : Prop :=
  ∀ (Be : Hp) (Re' : Addr → Prop) (w' : Wd) (σ' : St) (H' : Hp) (ss' : SS), (∀ b o, B1 b = some o → H' b = some o) → Ok Be Re' w' σ' H' ss' → Ext w1 w' →
    (∀ i, i < ds.length → J.go i H' ∧ ∀ x H'', J.yld i H' x H'' → ∃ d w'', ds[i]? = some d ∧ Ok Be Re' w'' σ' H'' ss' ∧ Ext w' w'' ∧ Rep w'' d x) ∧ (∀ i, ds.length ≤ i → J.stop i H')
abbrev WI := SS → (List D → SS → Prop) → Prop
def DI (X : Cx) (tg iter : Expr) (f : WI) : Prop := ∃ wi, PI X tg iter wi ∧ ∀ (B : Hp) (R : Addr → Prop) (w : Wd) (σ : St) (H : Hp) (ss : SS) (G : List D → SS → Prop) (Q : It → Hp → Prop), Ok B R w σ H ss → f ss G →
  (∀ J H' ds ss' w' B1 R1, Ok B1 R1 w' σ H' ss' → Ext w w' → Back X B R B1 R1 w' → Runs B1 R1 w' J ds → G ds ss' → Q J H') → wi σ H Q
theorem back_refl {X : Cx} {B : Hp} {R : Addr → Prop} {w : Wd} : Back X B R B R w := fun w' σ' H' ss' o _ P h => .inl (h H' o fun _ _ r => r)

/-! ### for -/
def loopW (g : WG) (f : WS) : List D → En → SS → Prop
  | [], E, s => E.nx s
  | d :: r, E, s => g d s fun s1 => f { E with nx := loopW g f r E, ct := loopW g f r E, bk := E.nx } s1
def sFor (fi : WI) (g : WG) (f : WS) : WS := fun E ss => fi ss fun ds s => loopW g f ds E s
section
variable {X : Cx} {tg iter : Expr} {body : List Stmt} {vs : List Nat} {fi : WI} {g : WG} {f : WS} {pos : Pos}
theorem ds_for (hp : PassesOwn (model X.prog X.w) X.A X.env X.xe) (hc : X.calm = true) (hi : DI X tg iter fi) (hg : DG X vs tg g) (hb : DSs X body f) (hs : ∀ x, foldedSetIterable iter X.env x = pure x := by intro _; rfl) : DS X (.For tg iter body [] pos) (sFor fi g f) := by
  obtain ⟨wi, pi, hfi⟩ := hi
  obtain ⟨tG, pg, hfg⟩ := hg
  obtain ⟨tb, pb, hfb⟩ := hb
  refine ⟨_, ps_unl (ps_for hp hc pi pg pb hs), fun B R w σ H ss E D o hw l => ?_⟩
  refine hfi B R w σ H ss _ _ o hw fun J H1 ds s1 w1 B1 R1 o1 e1 bk runs h1 => ?_
  have nx' : ∀ σ' H' ss' w', Ok B1 R1 w' σ' H' ss' → Ext w1 w' → E.nx ss' → Unl X (D.nx σ') H' := fun σ' H' ss' w' o' x h => bk w' σ' H' ss' o' x _ fun H'' o'' _ => l.nx σ' H'' ss' w' o'' (e1.trans x) h
  refine ⟨fun i m σ' H' => m = ds.length - i ∧ i ≤ ds.length ∧ ∃ ss' w', Ok B1 R1 w' σ' H' ss' ∧ Ext w1 w' ∧ loopW g f (ds.drop i) E ss', ⟨ds.length, by simp, Nat.zero_le _, s1, w1, o1, .refl w1, h1⟩, ?_⟩
  rintro i m σ2 H2 ⟨rfl, hi, s2, w2, o2, e2, h2⟩
  obtain ⟨go, stop⟩ := runs B1 R1 w2 σ2 H2 s2 o2.bs o2 e2
  by_cases hlt : i < ds.length
  · obtain ⟨g1, g2⟩ := go i hlt
    refine .inr ⟨g1, fun σ' H' => ∃ ss' w', Ok B1 R1 w' σ' H' ss' ∧ Ext w1 w' ∧ loopW g f (ds.drop (i + 1)) E ss', fun σ' H' h => ⟨ds.length - (i + 1), by omega, rfl, hlt, h⟩, fun x H3 y => ?_⟩
    obtain ⟨d, w3, hd, o3, e3, r3⟩ := g2 x H3 y
    have hdrop : ds.drop i = d :: ds.drop (i + 1) := by
      rw [List.drop_eq_getElem_cons hlt]
      rw [List.getElem?_eq_getElem hlt] at hd
      rw [Option.some.inj hd]
    rw [hdrop] at h2
    refine hfg B1 R1 w3 σ2 H3 s2 d x _ _ o3 r3 h2 fun σ4 H4 s4 w4 o4 e4 _ h4 => ?_
    have e14 := e2.trans (e3.trans e4)
    refine hfb B1 R1 w4 σ4 H4 s4 _ _ o4 h4 ⟨fun σ' H' ss' w' o' x h => ⟨ss', w', o', e14.trans x, h⟩, fun v σ' H' r ss' w' o' rr ns x h => ?_, fun σ' H' ss' w' o' x h => nx' σ' H' ss' w' o' (e14.trans x) h, fun σ' H' ss' w' o' x h => ⟨ss', w', o', e14.trans x, h⟩⟩
    exact bk w' σ' H' ss' o' (e14.trans x) _ fun H'' o'' tr => l.rt v σ' H'' r ss' w' o'' (tr r v rr) ns (e1.trans (e14.trans x)) h
  · have e : ds.drop i = [] := List.drop_eq_nil_of_le (by omega)
    rw [e] at h2
    exact .inl ⟨stop i (by omega), nx' σ2 H2 s2 w2 o2 e2 h2⟩
end
end Vl
namespace Vl
open PySem PySem.Spec L2
open PyProof.Rows hiding St

section
variable {X : Cx} {tg : Expr}
/-- a list, a tuple, a text, a dict's keys: by what the value is -/
def iAny (X : Cx) (te : TE) : TI := fun σ H R => te σ H fun x H1 =>
  (∃ a, x = .ref a ∧ (∃ xs, SqL X.K H1 a xs) ∧ R (Itl X.K a) H1) ∨ (∃ a, x = .ref a ∧ (∃ xs, SqT X.K H1 a xs) ∧ R (Itt X.K a) H1) ∨ (∃ z, x = .str z ∧ R (Its z) H1) ∨
  (∃ d kvs, x = .ref d ∧ ((∃ o, H1 d = some (.frz o (.dK kvs)) ∧ R (Itk d o kvs) H1) ∨ (H1 d = some (.dK kvs) ∧ ((∀ o' u', X.H_0 d ≠ some (.frz o' u')) → ∀ o, R (Itk d o kvs) (upd H1 d (.frz o (.dK kvs)))))))
theorem pi_any {e : Expr} {te : TE} (he : PE X e te) : PI X tg e (iAny X te) := by
  refine ⟨fun pins s σ H R I h => ?_⟩
  refine thn (he.run pins s σ H _ I h) fun v s1 ⟨x, H1, I1, r1, q1⟩ => ?_
  have keys : ∀ {d : Addr} {kvs : List (Key × V)} {o : Obj} {H2 : Hp}, Inv X pins σ H2 s1 → H2 d = some (.frz o (.dK kvs)) → R (Itk d o kvs) H2 → wpAny (model X.prog X.w) X.A (pyIter (.ref d)) (PIE X pins σ tg R) X.xe s1 := fun {d kvs o H2} I2 hd q => by
    obtain ⟨hs, hgd, hx, es, ep, vs, hdt, hsz, kv, hm⟩ := I2.frzK hd
    refine iter_keys hs hgd hx hdt (pi_one (tk := s1.toks) I2 _ (turn_keys _ hdt) ⟨_, Heap.get?_push_size _ rfl, rfl, ?_⟩ q)
    rw [hsz] <;> rfl
  rcases q1 with ⟨a, e, ⟨xs, hq⟩, q⟩ | ⟨a, e, ⟨xs, hq⟩, q⟩ | ⟨z, e, q⟩ | ⟨d, kvs, e, ⟨o, hd, q⟩ | ⟨hd, q⟩⟩
  · subst e
    cases r1
    obtain ⟨its, rv, p, hz⟩ := I1.list hq
    refine wpAny_pyIter_list p.isList (pi_one (tk := s1.toks) I1 _ (turn_list a _) ⟨_, Heap.get?_push_size _ rfl, rfl, rfl⟩ q)
  · subst e
    cases r1
    obtain ⟨its, rv, p, hz⟩ := I1.tuple hq
    refine wpAny_pyIter_tuple (show s1.heap.IsTuple a its.toArray from p) (pi_one (tk := s1.toks) I1 _ (turn_tuple a _) ⟨_, Heap.get?_push_size _ rfl, rfl, rfl⟩ q)
  · subst e
    obtain ⟨t, rfl⟩ := r1
    cases ha : z.cps.all (· < 128)
    · exact wpAny_pyIter_wide ha (pi_one (tk := s1.toks) I1 _ (turn_str _ z t "str_iterator" (.inr rfl)) ⟨_, Heap.get?_push_size _ rfl, rfl, rfl⟩ q)
    · exact wpAny_pyIter_ascii ha (pi_one (tk := s1.toks) I1 _ (turn_str _ z t "str_ascii_iterator" (.inl rfl)) ⟨_, Heap.get?_push_size _ rfl, rfl, rfl⟩ q)
  · subst e
    cases r1
    exact keys I1 hd q
  · subst e
    cases r1
    obtain ⟨o, I2⟩ := I1.lock hd trivial
    exact keys I2 upd_same (q (I1.nofrz hd trivial) o)
end

/-! ### the values' side -/
section
variable {X : Cx} {B : Hp} {R : Addr → Prop} {w : Wd} {σ : St} {H : Hp} {ss : SS}
/-- one more thing that is known to stand -/
theorem known_ok (o : Ok B R w σ H ss) {d : Addr} {u x : HO} (hF : w.F d = some x) (hd : H d = some u) : Ok (upd B d u) R w σ H ss := by
  have hne : ∀ b : Addr, w.F b = none → b ≠ d := fun b e z => by rw [z, hF] at e; cases e
  refine ⟨o.le, fun b x h => ?_, o.rs, o.vl, fun i c e => ?_, o.oi, o.ce, o.cl, fun a m => ?_, o.cn, o.ln⟩
  · by_cases z : b = d
    · subst z; rw [upd_same] at h; cases h; exact hd
    · rw [upd_ne z] at h; exact o.bs b x h
  · obtain ⟨a1, a2, a3, a4, a5⟩ := o.ow i c e
    exact ⟨a1, a2, a3, by rw [upd_ne (hne _ a3)]; exact a4, a5⟩
  · obtain ⟨a1, a2⟩ := o.cf a m
    exact ⟨a1, by rw [upd_ne (hne a a1)]; exact a2⟩
theorem known_back {w1 : Wd} {d : Addr} {u x : HO} (hF : w1.F d = some x) (hB : ∀ y, B d = some y → y = u) : Back X B R (upd B d u) R w1 := by
  intro w' σ' H' ss' o' ex P hP
  have hF' := ex.F d x hF
  have hne : ∀ b : Addr, w'.F b = none → b ≠ d := fun b e z => by rw [z, hF'] at e; cases e
  refine .inl (hP _ ⟨o'.le, fun b y h => ?_, o'.rs, o'.vl, fun i c e => ?_, o'.oi, o'.ce, o'.cl, fun a m => ?_, o'.cn, o'.ln⟩ fun r v rr => ?_)
  · refine o'.bs b y ?_
    by_cases z : b = d
    · subst z; rw [upd_same, hB y h]
    · rw [upd_ne z]; exact h
  · obtain ⟨a1, a2, a3, a4, a5⟩ := o'.ow i c e
    exact ⟨a1, a2, a3, by rw [upd_ne (hne _ a3)] at a4; exact a4, a5⟩
  · obtain ⟨a1, a2⟩ := o'.cf a m
    exact ⟨a1, by rw [upd_ne (hne a a1)] at a2; exact a2⟩
  · cases r with
    | val d => exact rr
    | slo i => exact rr
    | new c =>
      obtain ⟨p, e, x, h1, h2, h3⟩ := rr
      exact ⟨p, e, x, h1, by rw [upd_ne (hne p h1)] at h2; exact h2, h3⟩
/-- a locked dict's frame -/
theorem lock_ok (o : Ok B R w σ H ss) {d : Addr} {u : HO} {od : Obj} (hF : w.F d = some u) (hd : H d = some u) : Ok (upd B d (.frz od u)) R w σ (upd H d (.frz od u)) ss := by
  have hne : ∀ b : Addr, w.F b = none → b ≠ d := fun b e z => by rw [z, hF] at e; cases e
  have ks : ∀ {a : Addr} {c : C}, w.F a = none → Cel w H a c → Cel w (upd H d (.frz od u)) a c := fun {a c} hn x => x.ext (.refl w) (upd_ne (hne a hn))
  refine ⟨fun a x h => ?_, fun b x h => ?_, fun a r => ?_, o.vl, fun i c e => ?_, o.oi, fun n c e => ?_, o.cl, fun a m => ?_, o.cn, o.ln⟩
  · by_cases z : a = d
    · subst z
      rw [hF] at h; cases h
      exact .inr ⟨od, upd_same⟩
    · unfold Rd
      rw [upd_ne z]
      exact o.le a x h
  · by_cases z : b = d
    · subst z
      rw [upd_same] at h ⊢
      exact h
    · rw [upd_ne z] at h ⊢
      exact o.bs b x h
  · obtain ⟨a1, a2, x, hx⟩ := o.rs a r
    exact ⟨a1, a2, x, by rw [upd_ne (hne a a1)]; exact hx⟩
  · obtain ⟨a1, a2, a3, a4, a5⟩ := o.ow i c e
    exact ⟨a1, ks a3 a2, a3, by rw [upd_ne (hne _ a3)]; exact a4, a5⟩
  · obtain ⟨a, a1, a2⟩ := o.ce n c e
    exact ⟨a, a1, ks (o.cf a (List.mem_of_getElem? a1)).1 a2⟩
  · obtain ⟨a1, a2⟩ := o.cf a m
    exact ⟨a1, by rw [upd_ne (hne a a1)]; exact a2⟩
theorem unlock_back {w1 : Wd} {d : Addr} {u : HO} {od : Obj} (hF : w1.F d = some u) (hB : ∀ x, B d = some x → x = u) (h0 : ∀ o' u', X.H_0 d ≠ some (.frz o' u')) : Back X B R (upd B d (.frz od u)) R w1 := by
  intro w' σ' H' ss' o' ex P hP
  have hF' : w'.F d = some u := ex.F d u hF
  have hd : H' d = some (.frz od u) := o'.bs d _ upd_same
  have hne : ∀ b : Addr, w'.F b = none → b ≠ d := fun b e z => by rw [z, hF'] at e; cases e
  have ks : ∀ {a : Addr} {c : C}, w'.F a = none → Cel w' H' a c → Cel w' (upd H' d u) a c := fun {a c} hn x => x.ext (.refl w') (upd_ne (hne a hn))
  refine .inr ⟨d, od, u, hd, h0, hP _ ⟨fun a x h => ?_, fun b x h => ?_, fun a r => ?_, o'.vl, fun i c e => ?_, o'.oi, fun n c e => ?_, o'.cl, fun a m => ?_, o'.cn, o'.ln⟩ fun r v rr => ?_⟩
  · by_cases z : a = d
    · subst z
      rw [hF'] at h; cases h
      exact .inl upd_same
    · unfold Rd
      rw [upd_ne z]
      exact o'.le a x h
  · by_cases z : b = d
    · subst z
      rw [upd_same, hB x h]
    · rw [upd_ne z]
      exact o'.bs b x (by rw [upd_ne z]; exact h)
  · obtain ⟨a1, a2, x, hx⟩ := o'.rs a r
    exact ⟨a1, a2, x, by rw [upd_ne (hne a a1)]; exact hx⟩
  · obtain ⟨a1, a2, a3, a4, a5⟩ := o'.ow i c e
    exact ⟨a1, ks a3 a2, a3, by rw [upd_ne (hne _ a3)] at a4; exact a4, a5⟩
  · obtain ⟨a, a1, a2⟩ := o'.ce n c e
    exact ⟨a, a1, ks (o'.cf a (List.mem_of_getElem? a1)).1 a2⟩
  · obtain ⟨a1, a2⟩ := o'.cf a m
    exact ⟨a1, by rw [upd_ne (hne a a1)] at a2; exact a2⟩
  · cases r with
    | val d => exact rr
    | slo i => exact rr
    | new c =>
      obtain ⟨p, e, x, h1, h2, h3⟩ := rr
      exact ⟨p, e, ks h1 x, h1, by rw [upd_ne (hne p h1)] at h2; exact h2, h3⟩
/-- the signs of a text -/
def signs (z : Str) : List D := z.cps.toList.map fun c => .str ⟨#[c]⟩
/-- what a datum gives when it is walked -/
def walkD (d : D) (k : List D → Prop) : Prop := match d with
  | .lst ds => k ds
  | .tup ds => k ds
  | .str z => k (signs z)
  | .dic kvs => k (kvs.map fun kv => kD kv.1)
  | _ => False
def fAny (fe : WE) : WI := fun ss G => fe ss fun r s => fz r s fun d s => walkD d fun ds => G ds s
theorem RepK.get {w : Wd} : ∀ {ds : List (Key × D)} {vs : List (Key × V)} {i : Nat} {k : Key} {v : V}, RepK w ds vs → vs[i]? = some (k, v) → ∃ d, ds[i]? = some (k, d) ∧ Rep w d v
  | [], _, _, _, _, h, h' => by subst h; simp at h'
  | (k, d) :: ds, _, 0, _, _, ⟨v, us, e1, h1, h2⟩, h => by subst e1; simp at h; obtain ⟨rfl, rfl⟩ := h; exact ⟨d, rfl, h1⟩
  | (k, d) :: ds, _, i + 1, _, _, ⟨v, us, e1, h1, h2⟩, h => by subst e1; simp at h; obtain ⟨u, e, r⟩ := RepK.get h2 h; exact ⟨u, by simpa using e, r⟩
theorem rep_kD {w : Wd} (k : Key) : Rep w (kD k) (kV k) := by
  cases k <;> rfl
theorem list_runs {K : PySem.W.Frag} {a : Addr} {ds : List D} {vs : List V} {B1 : Hp} {R1 : Addr → Prop} {w1 : Wd} (hF : w1.F a = some (.lst vs)) (hr : RepL w1 ds vs) : Runs B1 R1 w1 (Itl K a) ds := by
  intro Be Re' w' σ' H' ss' hB o ex
  have q : SqL K H' a vs := .inl (o.le a _ (ex.F a _ hF))
  refine ⟨fun i hi => ?_, fun i hi => ⟨vs, q, by rw [hr.length]; exact hi⟩⟩
  obtain ⟨v, hv, rv⟩ := hr.get (List.getElem?_eq_getElem hi)
  refine ⟨⟨vs, v, q, hv⟩, fun x H'' ⟨e, y⟩ => ?_⟩
  subst e
  have := y vs q
  rw [hv] at this; cases this
  exact ⟨_, w', List.getElem?_eq_getElem hi, o, .refl w', rv.ext ex⟩
theorem tup_runs {K : PySem.W.Frag} {a : Addr} {ds : List D} {vs : List V} {B1 : Hp} {R1 : Addr → Prop} {w1 : Wd} (hF : w1.F a = some (.tup vs)) (hr : RepL w1 ds vs) : Runs B1 R1 w1 (Itt K a) ds := by
  intro Be Re' w' σ' H' ss' hB o ex
  have q : SqT K H' a vs := .inl (o.le a _ (ex.F a _ hF))
  refine ⟨fun i hi => ?_, fun i hi => ⟨vs, q, by rw [hr.length]; exact hi⟩⟩
  obtain ⟨v, hv, rv⟩ := hr.get (List.getElem?_eq_getElem hi)
  refine ⟨⟨vs, v, q, hv⟩, fun x H'' ⟨e, y⟩ => ?_⟩
  subst e
  have := y vs q
  rw [hv] at this; cases this
  exact ⟨_, w', List.getElem?_eq_getElem hi, o, .refl w', rv.ext ex⟩
theorem keys_runs {d : Addr} {ob : Obj} {ds : List (Key × D)} {kvs : List (Key × V)} {B1 : Hp} {R1 : Addr → Prop} {w1 : Wd} (hB : B1 d = some (.frz ob (.dK kvs))) (hr : RepK w1 ds kvs) : Runs B1 R1 w1 (Itk d ob kvs) (ds.map fun kv => kD kv.1) := by
  intro Be Re' w' σ' H' ss' hb o ex
  have hd := hb d _ hB
  refine ⟨fun i hi => ?_, fun i hi => ⟨hd, by rw [hr.length]; simpa using hi⟩⟩
  rw [List.length_map] at hi
  refine ⟨⟨hd, by rw [hr.length]; exact hi⟩, fun x H'' ⟨e, k, v, hkv, hx⟩ => ?_⟩
  subst e hx
  obtain ⟨d', e1, _⟩ := hr.get hkv
  exact ⟨kD k, w', by rw [List.getElem?_map, e1]; rfl, o, .refl w', rep_kD k⟩
theorem str_runs {z : Str} {B1 : Hp} {R1 : Addr → Prop} {w1 : Wd} : Runs B1 R1 w1 (Its z) (signs z) := by
  intro Be Re' w' σ' H' ss' hb o ex
  have hl : (signs z).length = z.cps.size := by unfold signs; rw [List.length_map, Array.length_toList]
  refine ⟨fun i hi => ⟨show i < z.cps.size by rw [← hl]; exact hi, fun x H'' ⟨e, c, hc, hx⟩ => ?_⟩, fun i hi => show z.cps.size ≤ i by rw [hl] at hi; exact hi⟩
  subst e hx
  exact ⟨.str ⟨#[c]⟩, w', by unfold signs; rw [List.getElem?_map, Array.getElem?_toList, hc]; rfl, o, .refl w', rfl⟩
theorem di_any {e : Expr} {fe : WE} {tg : Expr} (h : DE X e fe) : DI X tg e (fAny fe) := by
  obtain ⟨t, p, hf⟩ := h
  refine ⟨_, pi_any p, fun B R w σ H ss G Q o hw hq => hf B R w σ H ss _ _ o hw fun x H1 r s1 w1 o1 r1 e1 h1 => ?_⟩
  obtain ⟨d, s2, w2, o2, e2, r2, hk⟩ := fz_ok o1 r1 h1
  have e12 := e1.trans e2
  unfold walkD at hk
  split at hk
  · obtain ⟨a, vs, rfl, hF, rl⟩ := r2
    exact .inl ⟨a, rfl, ⟨vs, .inl (o2.le _ _ hF)⟩, hq _ H1 _ s2 w2 B R o2 e12 back_refl (list_runs hF rl) hk⟩
  · obtain ⟨a, vs, rfl, hF, rl⟩ := r2
    exact .inr (.inl ⟨a, rfl, ⟨vs, .inl (o2.le _ _ hF)⟩, hq _ H1 _ s2 w2 B R o2 e12 back_refl (tup_runs hF rl) hk⟩)
  · cases (show x = .str _ from r2)
    exact .inr (.inr (.inl ⟨_, rfl, hq _ H1 _ s2 w2 B R o2 e12 back_refl str_runs hk⟩))
  · obtain ⟨a, kws, rfl, hF, rk⟩ := r2
    refine .inr (.inr (.inr ⟨a, kws, rfl, ?_⟩))
    rcases o2.le _ _ hF with hd | ⟨ob, hd⟩
    · refine .inr ⟨hd, fun h0 ob => ?_⟩
      refine hq _ _ _ s2 w2 (upd B a (.frz ob (.dK kws))) R (lock_ok o2 hF hd) e12 (unlock_back hF (fun x hx => ?_) h0) (keys_runs upd_same rk) hk
      have := o2.bs a x hx
      rw [hd] at this
      exact (Option.some.inj this).symm
    · refine .inl ⟨ob, hd, ?_⟩
      refine hq _ _ _ s2 w2 (upd B a (.frz ob (.dK kws))) R (known_ok o2 hF hd) e12 (known_back hF fun x hx => ?_) (keys_runs upd_same rk) hk
      have := o2.bs a x hx
      rw [hd] at this
      exact (Option.some.inj this).symm
  · exact hk.elim
end
end Vl
namespace Vl
open PySem PySem.Spec L2
open PyProof.Rows hiding St

section
variable {X : Cx} {tg e a b c : Expr} {p pos apos cpos tpos : Pos} {fe : WE} {fr : WR}
/-! ### ranges -/
def upI (lo : Int) (n : Nat) : List D := (List.range n).map fun (i : Nat) => D.int (lo + i)
theorem upI_len (lo : Int) (n : Nat) : (upI lo n).length = n := by unfold upI; simp
theorem upI_get {lo : Int} {n i : Nat} (h : i < n) : (upI lo n)[i]? = some (.int (lo + i)) := by
  unfold upI
  rw [List.getElem?_map, List.getElem?_range h]; rfl
theorem range_runs {lo : Int} {n : Nat} {B1 : Hp} {R1 : Addr → Prop} {w1 : Wd} : Runs B1 R1 w1 (Itr lo n) (upI lo n) := by
  intro Be Re' w' σ' H' ss' hb o ex
  refine ⟨fun i hi => ?_, fun i hi => by rw [upI_len] at hi; exact hi⟩
  rw [upI_len] at hi
  refine ⟨hi, fun x H'' ⟨e, hx⟩ => ?_⟩
  subst e hx
  exact ⟨_, w', upI_get hi, o, .refl w', rfl⟩
def small62 (i : Int) : Prop := -(2 ^ 62) ≤ i ∧ i < 2 ^ 62
def kRg1 (rs : List D) (k : List D → Prop) : Prop := match rs with
  | [.int j] => small62 j ∧ k (upI 0 j.toNat)
  | _ => False
def kRg2 (rs : List D) (k : List D → Prop) : Prop := match rs with
  | [.int i, .int j] => (small62 i ∧ small62 j) ∧ k (upI i (j - i).toNat)
  | _ => False
def stepI (lo c : Int) (n : Nat) : List D := (List.range n).map fun (i : Nat) => D.int (lo + i * c)
def kRg3 (rs : List D) (k : List D → Prop) : Prop := match rs with
  | [.int i, .int j, .int c] => ∃ n, RgC i j c n ∧ k (stepI i c n)
  | _ => False
def fRg (kR : List D → (List D → Prop) → Prop) (fr : WR) : WI := fun ss G => fr ss fun rs s => vws rs s fun ds => kR ds fun xs => G xs s
theorem rangeC_runs {lo c : Int} {n : Nat} {B1 : Hp} {R1 : Addr → Prop} {w1 : Wd} : Runs B1 R1 w1 (Itc lo c n) (stepI lo c n) := by
  intro Be Re' w' σ' H' ss' hb o ex
  have hl : (stepI lo c n).length = n := by unfold stepI; simp
  refine ⟨fun i hi => ?_, fun i hi => by rw [hl] at hi; exact hi⟩
  rw [hl] at hi
  refine ⟨hi, fun x H'' ⟨e, hx⟩ => ?_⟩
  subst e hx
  exact ⟨.int (lo + (i : Nat) * c), w', by unfold stepI; rw [List.getElem?_map, List.getElem?_range hi]; rfl, o, .refl w', rfl⟩
theorem repTs_one {w : Wd} {H : Hp} {d : D} {vs : List V} (h : RepTs w H [d] vs) : ∃ v, vs = [v] ∧ RepT w H d v := by
  obtain ⟨v, us, rfl, r, e⟩ := h
  subst e
  exact ⟨v, rfl, r⟩
theorem repTs_two {w : Wd} {H : Hp} {d d' : D} {vs : List V} (h : RepTs w H [d, d'] vs) : ∃ v v', vs = [v, v'] ∧ RepT w H d v ∧ RepT w H d' v' := by
  obtain ⟨v, us, rfl, r, h⟩ := h
  obtain ⟨v', rfl, r'⟩ := repTs_one h
  exact ⟨v, v', rfl, r, r'⟩
theorem repTs_three {w : Wd} {H : Hp} {d d' d'' : D} {vs : List V} (h : RepTs w H [d, d', d''] vs) : ∃ v v' v'', vs = [v, v', v''] ∧ RepT w H d v ∧ RepT w H d' v' ∧ RepT w H d'' v'' := by
  obtain ⟨v, us, rfl, r, h⟩ := h
  obtain ⟨v', v'', rfl, r', r''⟩ := repTs_two h
  exact ⟨v, v', v'', rfl, r, r', r''⟩
theorem di_range1 (hm : X.mg "range" = none) (hg : Gl X "range" := by rfl) (ha : DR X [a] fr) (hs : starEach [a] X.env = [(false, eval a X.env)] := by rfl) : DI X tg (.Call (.Name "range" p) [a] [] pos) (fRg kRg1 fr) := by
  obtain ⟨t, pa, hf⟩ := ha
  refine ⟨_, pi_range1 hg hm pa hs, fun B R w σ H ss G Q o hw hq => hf B R w σ H ss _ _ o hw fun vs H1 rs s1 w1 o1 r1 e1 h1 => ?_⟩
  obtain ⟨ds, rd, hk⟩ := vws_ok o1 r1 h1
  unfold kRg1 at hk
  split at hk
  · obtain ⟨v, rfl, r⟩ := repTs_one rd
    cases (show v = .int _ from r)
    exact ⟨_, rfl, hk.1.1, hk.1.2, hq _ H1 _ s1 w1 B R o1 e1 back_refl range_runs hk.2⟩
  · exact hk.elim
theorem di_range2 (hm : X.mg "range" = none) (hg : Gl X "range" := by rfl) (ha : DR X [a, b] fr) (hs : starEach [a, b] X.env = [(false, eval a X.env), (false, eval b X.env)] := by rfl) (hs2 : starEach [b] X.env = [(false, eval b X.env)] := by rfl) : DI X tg (.Call (.Name "range" p) [a, b] [] pos) (fRg kRg2 fr) := by
  obtain ⟨t, pa, hf⟩ := ha
  refine ⟨_, pi_range2 hg hm pa hs hs2, fun B R w σ H ss G Q o hw hq => hf B R w σ H ss _ _ o hw fun vs H1 rs s1 w1 o1 r1 e1 h1 => ?_⟩
  obtain ⟨ds, rd, hk⟩ := vws_ok o1 r1 h1
  unfold kRg2 at hk
  split at hk
  · obtain ⟨v, v', rfl, r, r'⟩ := repTs_two rd
    cases (show v = .int _ from r)
    cases (show v' = .int _ from r')
    exact ⟨_, _, rfl, ⟨hk.1.1.1, hk.1.1.2, hk.1.2.1, hk.1.2.2⟩, hq _ H1 _ s1 w1 B R o1 e1 back_refl range_runs hk.2⟩
  · exact hk.elim
theorem di_range3 (hm : X.mg "range" = none) (hg : Gl X "range" := by rfl) (ha : DR X [a, b, c] fr) (hs : starEach [a, b, c] X.env = (false, eval a X.env) :: starEach [b, c] X.env := by rfl) (hpl : (backTo pos (starEach [b, c] X.env)).any (·.1) = false := by rfl) : DI X tg (.Call (.Name "range" p) [a, b, c] [] pos) (fRg kRg3 fr) := by
  obtain ⟨t, pa, hf⟩ := ha
  refine ⟨_, pi_range3 hg hm pa hs hpl, fun B R w σ H ss G Q o hw hq => hf B R w σ H ss _ _ o hw fun vs H1 rs s1 w1 o1 r1 e1 h1 => ?_⟩
  obtain ⟨ds, rd, hk⟩ := vws_ok o1 r1 h1
  unfold kRg3 at hk
  split at hk
  · obtain ⟨v, v', v'', rfl, r, r', r''⟩ := repTs_three rd
    cases (show v = .int _ from r)
    cases (show v' = .int _ from r')
    cases (show v'' = .int _ from r'')
    obtain ⟨n, hc, hk⟩ := hk
    exact ⟨_, _, _, n, rfl, hc, hq _ H1 _ s1 w1 B R o1 e1 back_refl rangeC_runs hk⟩
  · exact hk.elim

/-! ### enumerate, zip, a dict's items and values -/
def fzs (rs : List Re) (ss : SS) (k : List D → SS → Prop) : Prop := match rs with
  | [] => k [] ss
  | r :: rs => fz r ss fun d s => fzs rs s fun ds s => k (d :: ds) s
def numD (n : Nat) : List D → List D
  | [] => []
  | d :: ds => .tup [.int n, d] :: numD (n + 1) ds
theorem numD_len : ∀ (ds : List D) (n : Nat), (numD n ds).length = ds.length
  | [], _ => rfl
  | d :: ds, n => by rw [numD, List.length_cons, List.length_cons, numD_len ds]
theorem numD_get : ∀ (ds : List D) (n : Nat) {i : Nat} {d : D}, ds[i]? = some d → (numD n ds)[i]? = some (.tup [.int (n + i : Nat), d])
  | [], _, _, _, h => by simp at h
  | d :: ds, n, 0, _, h => by simp at h; subst h; rfl
  | d :: ds, n, i + 1, _, h => by
    rw [numD, List.getElem?_cons_succ, numD_get ds (n + 1) (by simpa using h)]
    have : n + 1 + i = n + (i + 1) := by omega
    rw [this]
def fEnum (fa : WA) : WI := fun ss G => fa ss fun ds s => match ds with
  | [.lst xs] => G (numD 0 xs) s
  | _ => False
theorem repL_one {w : Wd} {d : D} {vs : List V} (h : RepL w [d] vs) : ∃ v, vs = [v] ∧ Rep w d v := by
  obtain ⟨v, us, rfl, r, e⟩ := h
  subst e
  exact ⟨v, rfl, r⟩
theorem repL_two {w : Wd} {d d' : D} {vs : List V} (h : RepL w [d, d'] vs) : ∃ v v', vs = [v, v'] ∧ Rep w d v ∧ Rep w d' v' := by
  obtain ⟨v, us, rfl, r, h⟩ := h
  obtain ⟨v', rfl, r'⟩ := repL_one h
  exact ⟨v, v', rfl, r, r'⟩
theorem enum_runs {K : PySem.W.Frag} {a : Addr} {ds : List D} {vs : List V} {B1 : Hp} {R1 : Addr → Prop} {w1 : Wd} (hF : w1.F a = some (.lst vs)) (hr : RepL w1 ds vs) : Runs B1 R1 w1 (Ite K a) (numD 0 ds) := by
  intro Be Re' w' σ' H' ss' hB o ex
  have q : SqL K H' a vs := .inl (o.le a _ (ex.F a _ hF))
  refine ⟨fun i hi => ?_, fun i hi => ⟨vs, q, by rw [hr.length]; rw [numD_len] at hi; exact hi⟩⟩
  rw [numD_len] at hi
  obtain ⟨v, hv, rv⟩ := hr.get (List.getElem?_eq_getElem hi)
  refine ⟨⟨vs, v, q, hv⟩, fun x H'' ⟨T, y, hx, hT, e, hy⟩ => ?_⟩
  subst e hx
  have := hy vs q
  rw [hv] at this; cases this
  obtain ⟨o2, e2, r2⟩ := tup_ok o hT (vs := [.int (i : Nat), v]) (ds := [.int (0 + i : Nat), ds[i]]) ⟨_, _, rfl, by rw [Nat.zero_add]; rfl, _, _, rfl, rv.ext ex, rfl⟩
  exact ⟨_, _, numD_get ds 0 (List.getElem?_eq_getElem hi), o2, e2, r2⟩
theorem di_enum {fa : WA} {elts : List Expr} {kk : Nat} (hm : X.mg "enumerate" = none) (hg : Gl X "enumerate" := by rfl) (ha : DA X [e] fa) (hs : starEach [e] X.env = [(false, eval e X.env)] := by rfl) : DI X (.Tuple elts kk tpos) (.Call (.Name "enumerate" p) [e] [] pos) (fEnum fa) := by
  obtain ⟨t, pa, hf⟩ := ha
  refine ⟨_, pi_enum hg hm pa hs, fun B R w σ H ss G Q o hw hq => hf B R w σ H ss _ _ o hw fun vs H1 ds s1 w1 o1 r1 e1 h1 => ?_⟩
  split at h1
  · obtain ⟨v, rfl, r⟩ := repL_one r1
    obtain ⟨a, us, rfl, hF, rl⟩ := r
    exact ⟨a, us, rfl, .inl (o1.le _ _ hF), hq _ H1 _ s1 w1 B R o1 e1 back_refl (enum_runs hF rl) h1⟩
  · exact h1.elim
def zipD (xs ys : List D) : List D := List.zipWith (fun x y => .tup [x, y]) xs ys
def fZip (fa : WA) : WI := fun ss G => fa ss fun ds s => match ds with
  | [.lst xs, .lst ys] => G (zipD xs ys) s
  | _ => False
theorem zip_runs {K : PySem.W.Frag} {a b : Addr} {ds es : List D} {vs us : List V} {B1 : Hp} {R1 : Addr → Prop} {w1 : Wd} (hF : w1.F a = some (.lst vs)) (hr : RepL w1 ds vs) (hF' : w1.F b = some (.lst us)) (hr' : RepL w1 es us) : Runs B1 R1 w1 (Itz K a b) (zipD ds es) := by
  intro Be Re' w' σ' H' ss' hB o ex
  have q : SqL K H' a vs := .inl (o.le a _ (ex.F a _ hF))
  have q' : SqL K H' b us := .inl (o.le b _ (ex.F b _ hF'))
  have hl : (zipD ds es).length = min ds.length es.length := by unfold zipD; simp
  refine ⟨fun i hi => ?_, fun i hi => ⟨vs, us, q, q', by rw [hl] at hi; rw [hr.length, hr'.length]; omega⟩⟩
  rw [hl] at hi
  have h1 : i < ds.length := by omega
  have h2 : i < es.length := by omega
  obtain ⟨v, hv, rv⟩ := hr.get (List.getElem?_eq_getElem h1)
  obtain ⟨u, hu, ru⟩ := hr'.get (List.getElem?_eq_getElem h2)
  refine ⟨⟨vs, us, v, u, q, q', hv, hu⟩, fun x H'' ⟨T, y, z, hx, hT, e, hy, hz⟩ => ?_⟩
  subst e hx
  have := hy vs q
  rw [hv] at this; cases this
  have := hz us q'
  rw [hu] at this; cases this
  obtain ⟨o2, e2, r2⟩ := tup_ok o hT (vs := [v, u]) (ds := [ds[i], es[i]]) ⟨_, _, rfl, rv.ext ex, _, _, rfl, ru.ext ex, rfl⟩
  exact ⟨_, _, by unfold zipD; rw [List.getElem?_zipWith, List.getElem?_eq_getElem h1, List.getElem?_eq_getElem h2], o2, e2, r2⟩
theorem di_zip {fa : WA} {elts : List Expr} {kk : Nat} (hm : X.mg "zip" = none) (hg : Gl X "zip" := by rfl) (ha : DA X [a, b] fa) (hs : starEach [a, b] X.env = (false, eval a X.env) :: starEach [b] X.env := by rfl) (hpl : (backTo pos (starEach [b] X.env)).any (·.1) = false := by rfl) : DI X (.Tuple elts kk tpos) (.Call (.Name "zip" p) [a, b] [] pos) (fZip fa) := by
  obtain ⟨t, pa, hf⟩ := ha
  refine ⟨_, pi_zip hg hm pa hs hpl, fun B R w σ H ss G Q o hw hq => hf B R w σ H ss _ _ o hw fun vs H1 ds s1 w1 o1 r1 e1 h1 => ?_⟩
  split at h1
  · obtain ⟨v, v', rfl, r, r'⟩ := repL_two r1
    obtain ⟨a, us, rfl, hF, rl⟩ := r
    obtain ⟨b, us', rfl, hF', rl'⟩ := r'
    exact ⟨a, b, us, us', rfl, .inl (o1.le _ _ hF), .inl (o1.le _ _ hF'), hq _ H1 _ s1 w1 B R o1 e1 back_refl (zip_runs hF rl hF' rl') h1⟩
  · exact h1.elim

/-- a dict of known place: locked already, or to be locked -/
def dRun (X : Cx) (d : Addr) (kvs : List (Key × V)) (H1 : Hp) (R : Obj → Hp → Prop) : Prop :=
  (∃ o, H1 d = some (.frz o (.dK kvs)) ∧ R o H1) ∨ (H1 d = some (.dK kvs) ∧ ((∀ o' u', X.H_0 d ≠ some (.frz o' u')) → ∀ o, R o (upd H1 d (.frz o (.dK kvs)))))
theorem dRun_ok {pins : List (Addr × Obj)} {σ : St} {H1 : Hp} {s1 : Shared} {d : Addr} {kvs : List (Key × V)} {R : Obj → Hp → Prop} (I1 : Inv X pins σ H1 s1) (h : dRun X d kvs H1 R) : ∃ o H2, Inv X pins σ H2 s1 ∧ H2 d = some (.frz o (.dK kvs)) ∧ R o H2 := by
  rcases h with ⟨o, hd, q⟩ | ⟨hd, q⟩
  · exact ⟨o, H1, I1, hd, q⟩
  · obtain ⟨o, I2⟩ := I1.lock hd trivial
    exact ⟨o, _, I2, upd_same, q (I1.nofrz hd trivial) o⟩
def iItemsL (X : Cx) (td : TE) : TI := fun σ H R => td σ H fun x H1 => ∃ d kvs, x = .ref d ∧ dRun X d kvs H1 fun o H2 => R (Iti d o kvs) H2
def iValsL (X : Cx) (td : TE) : TI := fun σ H R => td σ H fun x H1 => ∃ d kvs, x = .ref d ∧ dRun X d kvs H1 fun o H2 => R (Itd d o kvs) H2
theorem pi_itemsL {td : TE} {elts : List Expr} {kk : Nat} (he : PE X e td) (hbase : attributeBase e "items" X.env (eval e X.env) = eval e X.env := by rfl) (hline : (apos.endLine == cpos.line) = true := by rfl) :
    PI X (.Tuple elts kk tpos) (.Call (.Attribute e "items" apos) [] [] cpos) (iItemsL X td) := by
  refine ⟨fun pins s σ H R I h => ?_⟩
  refine wpAny_Call_method (T := "dict") (id := "dict.items") hbase rfl hline F.plainAttrs_dict F.slot_dict_items F.type_dict_items (thn (he.run pins s σ H _ I h) fun u s1 ⟨x, H1, I1, rx, d, kvs, ex, hd⟩ => ?_)
  subst ex
  obtain rfl : u = Value.ref d := rx
  obtain ⟨o, H2, I1, hd, q⟩ := dRun_ok I1 hd
  obtain ⟨hs, hgd, hx, es, ep, vs, hdt, hsz, kv, hm⟩ := I1.frzK hd
  have hl : kvs.length = vs.length := Paired.length kv
  refine ⟨hm.dictOf.typeIs, hm.dictOf.mapOf.noDict, ?_⟩
  have I2 : Inv X pins σ H2 { s1 with heap := s1.heap.push { cls := .type "dict_items", data := .fields #[.ref d] } } := I1.kept (t' := s1.toks) fun b ob q => Heap.get?_push_of_some _ q
  have fin : wpAny (model X.prog X.w) X.A (pyIter (.ref s1.heap.objs.size)) (PIE X pins σ (.Tuple elts kk tpos) R) X.xe { s1 with heap := s1.heap.push { cls := .type "dict_items", data := .fields #[.ref d] } } := by
    refine wpAny_pyIter_items (d := d) (knd := mixKind X.prog X.w) ⟨_, Heap.get?_push_size _ rfl, rfl, rfl⟩ (hm.push _) (pi_one (tk := s1.toks) I2 _ (turn_items _ hdt) ⟨.none, .none, ?_⟩ q)
    rw [hl]
    exact Heap.get?_push_size _ rfl
  show wpAny _ _ (callWith cpos (.builtin "dict.items") [.ref d] [] []) _ X.xe s1
  exact method_meetsIn F.slot_dict_items F.entry_dict_items rfl (PySem.evalArgs_none ⟨rfl, hm.dictOf.typeIs, F.args_dict_items_1 _, _, meets_dict_items (mixKind X.prog X.w) d hs, ⟨vs, hm.dictOf⟩, fin⟩)
theorem pi_valuesL {td : TE} (he : PE X e td) (hbase : attributeBase e "values" X.env (eval e X.env) = eval e X.env := by rfl) (hline : (apos.endLine == cpos.line) = true := by rfl) : PI X tg (.Call (.Attribute e "values" apos) [] [] cpos) (iValsL X td) := by
  refine ⟨fun pins s σ H R I h => ?_⟩
  refine wpAny_Call_method (T := "dict") (id := "dict.values") hbase rfl hline F.plainAttrs_dict F.slot_dict_values F.type_dict_values (thn (he.run pins s σ H _ I h) fun u s1 ⟨x, H1, I1, rx, d, kvs, ex, hd⟩ => ?_)
  subst ex
  obtain rfl : u = Value.ref d := rx
  obtain ⟨o, H2, I1, hd, q⟩ := dRun_ok I1 hd
  obtain ⟨hs, hgd, hx, es, ep, vs, hdt, hsz, kv, hm⟩ := I1.frzK hd
  have hl : kvs.length = vs.length := Paired.length kv
  refine ⟨hm.dictOf.typeIs, hm.dictOf.mapOf.noDict, ?_⟩
  have I2 : Inv X pins σ H2 { s1 with heap := s1.heap.push { cls := .type "dict_values", data := .fields #[.ref d] } } := I1.kept (t' := s1.toks) fun b ob q => Heap.get?_push_of_some _ q
  have fin : wpAny (model X.prog X.w) X.A (pyIter (.ref s1.heap.objs.size)) (PIE X pins σ tg R) X.xe { s1 with heap := s1.heap.push { cls := .type "dict_values", data := .fields #[.ref d] } } := by
    refine wpAny_pyIter_values (d := d) (knd := mixKind X.prog X.w) ⟨_, Heap.get?_push_size _ rfl, rfl, rfl⟩ (hm.push _) (pi_one (tk := s1.toks) I2 _ (turn_vals _ hdt) ⟨_, Heap.get?_push_size _ rfl, rfl, ?_⟩ q)
    rw [hl] <;> rfl
  show wpAny _ _ (callWith cpos (.builtin "dict.values") [.ref d] [] []) _ X.xe s1
  exact method_meetsIn F.slot_dict_values F.entry_dict_values rfl (PySem.evalArgs_none ⟨rfl, hm.dictOf.typeIs, F.args_dict_values_1 _, _, meets_dict_values (mixKind X.prog X.w) d hs, ⟨vs, hm.dictOf⟩, fin⟩)
theorem items_runs {d : Addr} {ob : Obj} {ds : List (Key × D)} {kvs : List (Key × V)} {B1 : Hp} {R1 : Addr → Prop} {w1 : Wd} (hB : B1 d = some (.frz ob (.dK kvs))) (hr : RepK w1 ds kvs) : Runs B1 R1 w1 (Iti d ob kvs) (ds.map fun kv => .tup [kD kv.1, kv.2]) := by
  intro Be Re' w' σ' H' ss' hb o ex
  have hd := hb d _ hB
  refine ⟨fun i hi => ?_, fun i hi => ⟨hd, by rw [hr.length]; simpa using hi⟩⟩
  rw [List.length_map] at hi
  refine ⟨⟨hd, by rw [hr.length]; exact hi⟩, fun x H'' ⟨T, k, v, hkv, hx, hT, e⟩ => ?_⟩
  subst e hx
  obtain ⟨d', e1, r1⟩ := hr.get hkv
  obtain ⟨o2, e2, r2⟩ := tup_ok o hT (vs := [kV k, v]) (ds := [kD k, d']) ⟨_, _, rfl, rep_kD k, _, _, rfl, r1.ext ex, rfl⟩
  exact ⟨_, _, by rw [List.getElem?_map, e1]; rfl, o2, e2, r2⟩
theorem vals_runs {d : Addr} {ob : Obj} {ds : List (Key × D)} {kvs : List (Key × V)} {B1 : Hp} {R1 : Addr → Prop} {w1 : Wd} (hB : B1 d = some (.frz ob (.dK kvs))) (hr : RepK w1 ds kvs) : Runs B1 R1 w1 (Itd d ob kvs) (ds.map (·.2)) := by
  intro Be Re' w' σ' H' ss' hb o ex
  have hd := hb d _ hB
  refine ⟨fun i hi => ?_, fun i hi => ⟨hd, by rw [hr.length]; simpa using hi⟩⟩
  rw [List.length_map] at hi
  refine ⟨⟨hd, by rw [hr.length]; exact hi⟩, fun x H'' ⟨e, k, hkv⟩ => ?_⟩
  subst e
  obtain ⟨d', e1, r1⟩ := hr.get hkv
  exact ⟨d', w', by rw [List.getElem?_map, e1]; rfl, o, .refl w', r1.ext ex⟩
/-- the frame of a walk over a known dict -/
theorem dict_go {B : Hp} {R : Addr → Prop} {w w0 : Wd} {σ : St} {H : Hp} {ss : SS} (o : Ok B R w σ H ss) {a : Addr} {kws : List (Key × V)} (hF : w.F a = some (.dK kws)) {Q : Obj → Hp → Prop}
    (hq : ∀ ob H' B1, Ok B1 R w σ H' ss → Back X B R B1 R w → B1 a = some (.frz ob (.dK kws)) → Q ob H') : dRun X a kws H Q := by
  rcases o.le _ _ hF with hd | ⟨ob, hd⟩
  · refine .inr ⟨hd, fun h0 ob => hq ob _ (upd B a (.frz ob (.dK kws))) (lock_ok o hF hd) (unlock_back hF (fun x hx => ?_) h0) upd_same⟩
    have := o.bs a x hx
    rw [hd] at this
    exact (Option.some.inj this).symm
  · refine .inl ⟨ob, hd, hq ob H (upd B a (.frz ob (.dK kws))) (known_ok o hF hd) (known_back hF fun x hx => ?_) upd_same⟩
    have := o.bs a x hx
    rw [hd] at this
    exact (Option.some.inj this).symm
def fItems (fe : WE) : WI := fun ss G => fe ss fun r s => fz r s fun d s => match d with
  | .dic kvs => G (kvs.map fun kv => .tup [kD kv.1, kv.2]) s
  | _ => False
def fValues (fe : WE) : WI := fun ss G => fe ss fun r s => fz r s fun d s => match d with
  | .dic kvs => G (kvs.map (·.2)) s
  | _ => False
theorem di_items {elts : List Expr} {kk : Nat} (h : DE X e fe) (hbase : attributeBase e "items" X.env (eval e X.env) = eval e X.env := by rfl) (hline : (apos.endLine == cpos.line) = true := by rfl) : DI X (.Tuple elts kk tpos) (.Call (.Attribute e "items" apos) [] [] cpos) (fItems fe) := by
  obtain ⟨t, p, hf⟩ := h
  refine ⟨_, pi_itemsL p hbase hline, fun B R w σ H ss G Q o hw hq => hf B R w σ H ss _ _ o hw fun x H1 r s1 w1 o1 r1 e1 h1 => ?_⟩
  obtain ⟨d, s2, w2, o2, e2, r2, hk⟩ := fz_ok o1 r1 h1
  split at hk
  · obtain ⟨a, kws, rfl, hF, rk⟩ := r2
    exact ⟨a, kws, rfl, dict_go (w0 := w2) o2 hF fun ob H' B1 o3 bk hB => hq _ _ _ s2 w2 B1 R o3 (e1.trans e2) bk (items_runs hB rk) hk⟩
  · exact hk.elim
theorem di_values (h : DE X e fe) (hbase : attributeBase e "values" X.env (eval e X.env) = eval e X.env := by rfl) (hline : (apos.endLine == cpos.line) = true := by rfl) : DI X tg (.Call (.Attribute e "values" apos) [] [] cpos) (fValues fe) := by
  obtain ⟨t, p, hf⟩ := h
  refine ⟨_, pi_valuesL p hbase hline, fun B R w σ H ss G Q o hw hq => hf B R w σ H ss _ _ o hw fun x H1 r s1 w1 o1 r1 e1 h1 => ?_⟩
  obtain ⟨d, s2, w2, o2, e2, r2, hk⟩ := fz_ok o1 r1 h1
  split at hk
  · obtain ⟨a, kws, rfl, hF, rk⟩ := r2
    exact ⟨a, kws, rfl, dict_go (w0 := w2) o2 hF fun ob H' B1 o3 bk hB => hq _ _ _ s2 w2 B1 R o3 (e1.trans e2) bk (vals_runs hB rk) hk⟩
  · exact hk.elim
end
end Vl
namespace Vl
open PySem PySem.Spec L2
open PyProof.Rows hiding St

/-! ### readings that do not hang on the context -/
def rdV (f : WV) : TE := fun σ H Q => ∃ B R w ss G, Ok B R w σ H ss ∧ f ss G ∧ ∀ v H' d ss' w', Ok B R w' σ H' ss' → Rep w' d v → Ext w w' → G d ss' → Q v H'
def rdT (f : WT) : TT := fun σ H Q => ∃ B R w ss G, Ok B R w σ H ss ∧ f ss G ∧ ∀ b H' ss' w', Ok B R w' σ H' ss' → Ext w w' → G b ss' → Q b H'
def rdG (vs : List Nat) (g : WG) : TG := fun v σ H Q => ∃ B R w ss d K, Ok B R w σ H ss ∧ Rep w d v ∧ g d ss K ∧ ∀ σ' H' ss' w', Ok B R w' σ' H' ss' → Ext w w' → (∀ us : List Nat, (∀ i ∈ vs, i ∈ us) → wipe σ' us = wipe σ us) → K ss' → Q σ' H'
section
variable {X : Cx} {e : Expr} {es : List Expr} {pos : Pos}
theorem PE.imp {t t' : TE} (h : PE X e t) (k : ∀ σ H Q, t' σ H Q → t σ H Q) : PE X e t' := ⟨fun pins s σ H Q I hw => h.run pins s σ H Q I (k _ _ _ hw)⟩
theorem DV.pe {f : WV} (h : DV X e f) : PE X e (rdV f) := by
  obtain ⟨t, p, hf⟩ := h
  exact PE.imp p fun σ H Q ⟨B, R, w, ss, G, o, hw, hq⟩ => hf B R w σ H ss G Q o hw hq
theorem DT.pt {f : WT} (h : DT X e f) : PT X e (rdT f) := by
  obtain ⟨t, p, hf⟩ := h
  exact ⟨fun pins s σ H Q I ⟨B, R, w, ss, G, o, hw, hq⟩ => p.run pins s σ H Q I (hf B R w σ H ss G Q o hw hq)⟩
theorem DG.pg {vs : List Nat} {g : WG} (h : DG X vs e g) : PG X e (rdG vs g) := by
  obtain ⟨t, p, hf⟩ := h
  exact ⟨fun pins s σ H v u Q I r ⟨B, R, w, ss, d, K, o, rd, hg, hq⟩ => p.run pins s σ H v u Q I r (hf B R w σ H ss d v K Q o rd hg hq)⟩
/-- the tests of a comprehension -/
def DTs (X : Cx) (ifs : List Expr) (f : WT) : Prop := PTs X ifs (rdT f)
def gYes : WT := fun ss G => G true ss
theorem dts_nil : DTs X [] gYes := ⟨fun pins s σ H Q I ⟨B, R, w, ss, G, o, hw, hq⟩ => pts_nil.run pins s σ H Q I (hq true H ss w o (.refl w) hw)⟩
theorem dts_one {f : WT} (h : DT X e f) : DTs X [e] f := pts_one h.pt
end

theorem wipe_in {σ : St} {i : Nat} (hi : i < σ.length) : ∀ {vs : List Nat}, i ∈ vs → (wipe σ vs)[i]? = some none
  | v :: vs, h => by
    unfold wipe
    by_cases e : v = i
    · subst e
      rw [List.getElem?_set_self (by rw [wipe_length]; exact hi)]
    · rw [List.getElem?_set_ne e]
      exact wipe_in hi ((List.mem_cons.mp h).elim (fun z => (e z.symm).elim) id)
theorem wipe_wipe (σ : St) (vs : List Nat) : wipe (wipe σ vs) vs = wipe σ vs := by
  apply List.ext_getElem?
  intro i
  by_cases m : i ∈ vs
  · by_cases hi : i < σ.length
    · rw [wipe_in hi m, wipe_in (by rw [wipe_length]; exact hi) m]
    · rw [List.getElem?_eq_none (by rw [wipe_length, wipe_length]; omega), List.getElem?_eq_none (by rw [wipe_length]; omega)]
  · rw [wipe_out m]
/-! ### the block's own slots -/
def wipeR (r : List SV) : List Nat → List SV
  | [] => r
  | v :: vs => (wipeR r vs).set v .no
def wipeS (vs : List Nat) (s : SS) : SS := { s with r := wipeR s.r vs }
theorem wipeR_len (r : List SV) : ∀ vs : List Nat, (wipeR r vs).length = r.length
  | [] => rfl
  | v :: vs => by unfold wipeR; rw [List.length_set, wipeR_len r vs]
theorem wipeR_get {r : List SV} {i : Nat} {x : SV} : ∀ {vs : List Nat}, (wipeR r vs)[i]? = some x → (x = .no ∧ i ∈ vs) ∨ (i ∉ vs ∧ r[i]? = some x)
  | [], h => .inr ⟨by simp, h⟩
  | v :: vs, h => by
    unfold wipeR at h
    rcases set_get h with ⟨e1, e2, _⟩ | ⟨ne, h⟩
    · exact .inl ⟨e2, by rw [e1]; exact List.mem_cons_self⟩
    · rcases wipeR_get h with ⟨a, b⟩ | ⟨a, b⟩
      · exact .inl ⟨a, List.mem_cons_of_mem _ b⟩
      · exact .inr ⟨fun m => (List.mem_cons.mp m).elim ne a, b⟩
def keepV : Option SV → SV
  | some (.val d) => .val d
  | _ => .no
/-- the slots as they were ahead of the block -/
def unwR (r r' : List SV) : List Nat → List SV
  | [] => r'
  | v :: vs => (unwR r r' vs).set v (keepV r[v]?)
def unwS (s s' : SS) (vs : List Nat) : SS := { s' with r := unwR s.r s'.r vs }
theorem unwR_len (r r' : List SV) : ∀ vs : List Nat, (unwR r r' vs).length = r'.length
  | [] => rfl
  | v :: vs => by unfold unwR; rw [List.length_set, unwR_len r r' vs]
theorem unwR_get {r r' : List SV} {i : Nat} {x : SV} : ∀ {vs : List Nat}, (unwR r r' vs)[i]? = some x → (i ∈ vs ∧ x = keepV r[i]?) ∨ (i ∉ vs ∧ r'[i]? = some x)
  | [], h => .inr ⟨by simp, h⟩
  | v :: vs, h => by
    unfold unwR at h
    rcases set_get h with ⟨e1, e2, _⟩ | ⟨ne, h⟩
    · exact .inl ⟨by rw [e1]; exact List.mem_cons_self, by rw [e1]; exact e2⟩
    · rcases unwR_get h with ⟨a, b⟩ | ⟨a, b⟩
      · exact .inl ⟨List.mem_cons_of_mem _ a, b⟩
      · exact .inr ⟨fun m => (List.mem_cons.mp m).elim ne a, b⟩
section
variable {B : Hp} {R : Addr → Prop} {w : Wd} {σ : St} {H : Hp} {ss : SS}
theorem Ok.wiped (o : Ok B R w σ H ss) (vs : List Nat) : Ok B R w (wipe σ vs) H (wipeS vs ss) :=
  o.slots (by rw [wipeR_len, wipe_length]; exact o.ln) (fun i d h => by
    rcases wipeR_get h with ⟨e, _⟩ | ⟨ni, h⟩
    · cases e
    · obtain ⟨v, a1, a2⟩ := o.vl i d h
      exact ⟨v, by rw [wipe_out ni]; exact a1, a2⟩) (fun i c h => by
    rcases wipeR_get h with ⟨e, _⟩ | ⟨ni, h⟩
    · cases e
    · exact ⟨h, wipe_out ni⟩)
theorem Ok.unwiped {w' : Wd} {H' : Hp} {ss' : SS} (o : Ok B R w σ H ss) {B' : Hp} {R' : Addr → Prop} {vs : List Nat} (o' : Ok B' R' w' (wipe σ vs) H' ss') (ex : Ext w w') : Ok B' R' w' σ H' (unwS ss ss' vs) :=
  o'.slots (by rw [unwR_len, o'.ln, wipe_length]) (fun i d h => by
    rcases unwR_get h with ⟨mi, e⟩ | ⟨ni, h⟩
    · unfold keepV at e
      split at e
      · rename_i d' q
        cases e
        obtain ⟨v, a1, a2⟩ := o.vl i d q
        exact ⟨v, a1, a2.ext ex⟩
      · cases e
    · obtain ⟨v, a1, a2⟩ := o'.vl i d h
      exact ⟨v, by rw [wipe_out ni] at a1; exact a1, a2⟩) (fun i c h => by
    rcases unwR_get h with ⟨mi, e⟩ | ⟨ni, h⟩
    · unfold keepV at e
      split at e
      · cases e
      · cases e
    · exact ⟨h, (wipe_out ni).symm⟩)
/-- what is kept apart at p changes -/
theorem Ok.bump {p : Addr} {u u' : HO} (o : Ok (upd B p u) R w σ H ss) (hR : R p) : Ok (upd B p u') R w σ (upd H p u') ss := by
  obtain ⟨hF, hc, _⟩ := o.rs p hR
  have hne : ∀ {a : Addr} {c : C}, a ≠ p → Cel w H a c → Cel w (upd H p u') a c := fun {a c} h x => x.ext (.refl w) (upd_ne h)
  refine ⟨fun a x h => ?_, fun b x h => ?_, fun a r => ?_, o.vl, fun i c e => ?_, o.oi, fun n c e => ?_, o.cl, fun a m => ?_, o.cn, o.ln⟩
  · have ne : a ≠ p := fun z => by rw [z, hF] at h; cases h
    unfold Rd
    rw [upd_ne ne]
    exact o.le a x h
  · by_cases z : b = p
    · subst z; rw [upd_same] at h ⊢; exact h
    · rw [upd_ne z] at h ⊢
      exact o.bs b x (by rw [upd_ne z]; exact h)
  · obtain ⟨a1, a2, x, hx⟩ := o.rs a r
    refine ⟨a1, a2, ?_⟩
    by_cases z : a = p
    · exact ⟨u', by rw [z]; exact upd_same⟩
    · exact ⟨x, by rw [upd_ne z]; exact hx⟩
  · obtain ⟨a1, a2, a3, a4, a5⟩ := o.ow i c e
    have ne : w.os i ≠ p := fun z => by rw [z, upd_same] at a4; cases a4
    exact ⟨a1, hne ne a2, a3, by rw [upd_ne ne] at a4 ⊢; exact a4, a5⟩
  · obtain ⟨a, a1, a2⟩ := o.ce n c e
    have ne : a ≠ p := fun z => hc (z ▸ List.mem_of_getElem? a1)
    exact ⟨a, a1, hne ne a2⟩
  · obtain ⟨a1, a2⟩ := o.cf a m
    have ne : a ≠ p := fun z => hc (z ▸ m)
    exact ⟨a1, by rw [upd_ne ne] at a2 ⊢; exact a2⟩
/-- a new thing kept apart -/
theorem Ok.apart {p : Addr} {u : HO} (o : Ok B R w σ H ss) (hp : H p = none) : Ok (upd B p u) (fun a => R a ∨ a = p) w σ (upd H p u) ss := by
  obtain ⟨h1, h2, h3, h4, h5⟩ := o.fresh hp
  have o1 := o.grow (H' := upd H p u) fun b x e => by rw [upd_ne (ne_of_none e hp)]; exact e
  refine ⟨o1.le, fun b x h => ?_, fun a r => ?_, o1.vl, fun i c e => ?_, o1.oi, o1.ce, o1.cl, fun a m => ?_, o1.cn, o1.ln⟩
  · by_cases z : b = p
    · subst z; rw [upd_same] at h ⊢; exact h
    · rw [upd_ne z] at h; exact o1.bs b x h
  · rcases r with r | rfl
    · exact o1.rs a r
    · exact ⟨h1, h4, u, upd_same⟩
  · obtain ⟨a1, a2, a3, a4, a5, a6⟩ := o1.ow i c e
    have ne := h5 i c e
    exact ⟨a1, a2, a3, by rw [upd_ne ne]; exact a4, fun z => z.elim a5 ne, a6⟩
  · obtain ⟨a1, a2⟩ := o1.cf a m
    exact ⟨a1, by rw [upd_ne (fun z : a = p => h4 (z ▸ m))]; exact a2⟩
/-- .. and given out -/
theorem Ok.given {p : Addr} {u : HO} {c : C} (o : Ok (upd B p u) (fun a => R a ∨ a = p) w σ H ss) (hB : B p = none) (hR : ¬ R p) (hc : Cel w H p c) : Ok B R w σ H ss ∧ RepR B R w σ H ss (.new c) (.ref p) := by
  obtain ⟨hF, hcs, _⟩ := o.rs p (.inr rfl)
  have hw : ∀ (i : Nat) (c' : C), ss.r[i]? = some (.own c') → w.os i ≠ p := fun i c' e z => by
    obtain ⟨_, _, _, _, a5, _⟩ := o.ow i c' e
    exact a5 (.inr z)
  refine ⟨⟨o.le, fun b x h => ?_, fun a r => o.rs a (.inl r), o.vl, fun i c' e => ?_, o.oi, o.ce, o.cl, fun a m => ?_, o.cn, o.ln⟩, p, rfl, hc, hF, hB, hR, hcs, hw⟩
  · refine o.bs b x ?_
    rw [upd_ne (fun z => by rw [z, hB] at h; cases h)]; exact h
  · obtain ⟨a1, a2, a3, a4, a5, a6⟩ := o.ow i c' e
    exact ⟨a1, a2, a3, by rw [upd_ne (hw i c' e)] at a4; exact a4, fun z => a5 (.inl z), a6⟩
  · obtain ⟨a1, a2⟩ := o.cf a m
    exact ⟨a1, by rw [upd_ne (fun z : a = p => hcs (z ▸ m))] at a2; exact a2⟩
end

/-! ### [e for x in xs if ..] -/
def compW (g : WG) (gt : WT) (fe : WV) (vs : List Nat) : List D → List D → SS → (List D → SS → Prop) → Prop
  | [], acc, s, K => K acc s
  | d :: r, acc, s, K => g d s fun s1 => gt s1 fun b s2 => if b = true then fe s2 fun y s3 => acc.length < sizeLine ∧ compW g gt fe vs r (acc ++ [y]) (wipeS vs s3) K else compW g gt fe vs r acc (wipeS vs s2) K
def fLc (fi : WI) (g : WG) (gt : WT) (fe : WV) (vs : List Nat) : WE := fun ss G => fi ss fun ds s => compW g gt fe vs ds [] (wipeS vs s) fun acc s' => G (.new (.lst acc)) (unwS s s' vs)
/-- the reading of a comprehension from the words -/
theorem lc_run {X : Cx} {wi : TI} {fi : WI} {g : WG} {gt : WT} {fe : WV} {vs vg : List Nat} (hv : ∀ i ∈ vg, i ∈ vs)
    (hfi : ∀ (B : Hp) (R : Addr → Prop) (w : Wd) (σ : St) (H : Hp) (ss : SS) (G : List D → SS → Prop) (Q : It → Hp → Prop), Ok B R w σ H ss → fi ss G →
      (∀ J H' ds ss' w' B1 R1, Ok B1 R1 w' σ H' ss' → Ext w w' → Back X B R B1 R1 w' → Runs B1 R1 w' J ds → G ds ss' → Q J H') → wi σ H Q)
    (B : Hp) (R : Addr → Prop) (w : Wd) (σ : St) (H : Hp) (ss : SS) (G : Re → SS → Prop) (Q : VK) (o : Ok B R w σ H ss) (hw : fLc fi g gt fe vs ss G)
    (hq : ∀ v H' r ss' w', Ok B R w' σ H' ss' → RepR B R w' σ H' ss' r v → Ext w w' → G r ss' → Q v H') : tLc wi (rdG vg g) (rdT gt) (rdV fe) vs σ H (fun v H' => Unl X (Q v) H') := by
  refine hfi B R w σ H ss _ _ o hw fun J H1 ds s1 w1 B1 R1 o1 e1 bk runs h1 p hp => ?_
  obtain ⟨pF, pB, pR, pc, po⟩ := o1.fresh hp
  have oA := (o1.wiped vs).apart (u := .lst []) hp
  refine ⟨fun i m H2 => m = ds.length - i ∧ i ≤ ds.length ∧ ∃ us acc ss' w', Ok (upd B1 p (.lst us)) (fun a => R1 a ∨ a = p) w' (wipe σ vs) H2 ss' ∧ Ext w1 w' ∧ RepL w' acc us ∧ compW g gt fe vs (ds.drop i) acc ss' fun acc s' => G (.new (.lst acc)) (unwS s1 s' vs),
    ⟨ds.length, by simp, Nat.zero_le _, [], [], _, w1, oA, .refl w1, rfl, h1⟩, ?_⟩
  rintro i m H2 ⟨rfl, hi, us, acc, s2, w2, o2, e2, ra, h2⟩
  have hB2 : ∀ b x, B1 b = some x → H2 b = some x := fun b x h => o2.bs b x (by rw [upd_ne (fun z => by rw [z, pB] at h; cases h)]; exact h)
  obtain ⟨go, stop⟩ := runs _ _ w2 _ H2 s2 hB2 o2 e2
  by_cases hlt : i < ds.length
  · obtain ⟨g1, g2⟩ := go i hlt
    refine .inr ⟨g1, fun H' => ∃ us acc ss' w', Ok (upd B1 p (.lst us)) (fun a => R1 a ∨ a = p) w' (wipe σ vs) H' ss' ∧ Ext w1 w' ∧ RepL w' acc us ∧ compW g gt fe vs (ds.drop (i + 1)) acc ss' fun acc s' => G (.new (.lst acc)) (unwS s1 s' vs),
      fun H' h => ⟨ds.length - (i + 1), by omega, rfl, hlt, h⟩, fun x H3 y => ?_⟩
    obtain ⟨d, w3, hd, o3, e3, r3⟩ := g2 x H3 y
    have hdrop : ds.drop i = d :: ds.drop (i + 1) := by
      rw [List.drop_eq_getElem_cons hlt]
      rw [List.getElem?_eq_getElem hlt] at hd
      rw [Option.some.inj hd]
    rw [hdrop] at h2
    refine ⟨_, _, w3, s2, d, _, o3, r3, h2, fun σ4 H4 s4 w4 o4 e4 q4 h4 => ⟨by rw [q4 vs hv]; exact wipe_wipe σ vs, ?_⟩⟩
    have q4' : wipe σ4 vs = wipe σ vs := by rw [q4 vs hv]; exact wipe_wipe σ vs
    refine ⟨_, _, w4, s4, _, o4, h4, fun b H5 s5 w5 o5 e5 h5 => ?_⟩
    have e15 := e2.trans (e3.trans (e4.trans e5))
    have e25 := e3.trans (e4.trans e5)
    cases b with
    | true =>
      refine iteT ⟨_, _, w5, s5, _, o5, h5, fun v H6 dy s6 w6 o6 r6 e6 ⟨hz, h6⟩ => ⟨us, ?_, ?_, ?_⟩⟩
      · exact o6.bs p _ upd_same
      · rw [ra.length]; exact hz
      · refine ⟨us ++ [v], acc ++ [dy], _, w6, ?_, e15.trans e6, (ra.ext (e25.trans e6)).append ⟨v, [], rfl, r6, rfl⟩, h6⟩
        have := (o6.wiped vs).bump (u' := .lst (us ++ [v])) (.inr rfl)
        rw [q4'] at this
        exact this
    | false =>
      refine iteF ⟨us, acc, _, w5, ?_, e15, ra.ext e25, h5⟩
      have := o5.wiped vs
      rw [q4'] at this
      exact this
  · have e : ds.drop i = [] := List.drop_eq_nil_of_le (by omega)
    rw [e] at h2
    refine .inl ⟨stop i (by omega), ?_⟩
    have h2 : G (.new (.lst acc)) (unwS s1 s2 vs) := h2
    have o2' := o1.unwiped o2 e2
    obtain ⟨o3, r3⟩ := o2'.given (c := .lst acc) pB pR ⟨us, o2.bs p _ upd_same, ra⟩
    exact bk w2 σ H2 _ o3 e2 _ fun H'' o'' tr => hq _ H'' _ _ w2 o'' (tr _ _ r3) (e1.trans e2) h2
end Vl
namespace Vl
open PySem PySem.Spec L2
open PyProof.Rows hiding St

section
variable {X : Cx} {a b c e elt tg iter : Expr} {pos pos' spos py : Pos} {fe : WE} {fi : WI} {g : WG} {gt : WT} {fv : WV} {ifs : List Expr} {scope : Scope} {own : List (Str × Nat)} {vg : List Nat}
theorem de_lc (own : List (Str × Nat)) (hc : X.calm = true) (hN : X.N.Nodup) (ok : BlkOk X.N X.env.scope scope own) (hi : DI X tg iter fi)
    (hg : ∀ (s : Shared) (H : Hp) (C : Addr) (cl : List (Str × Addr)) (fp : List Addr), DG (X.blk s H scope (compEnvC scope cl C X.env) fp) vg tg g) (hv : ∀ i ∈ vg, i ∈ own.map (·.2))
    (ht : ∀ (s : Shared) (H : Hp) (C : Addr) (cl : List (Str × Addr)) (fp : List Addr), DTs (X.blk s H scope (compEnvC scope cl C X.env) fp) ifs gt)
    (he : ∀ (s : Shared) (H : Hp) (C : Addr) (cl : List (Str × Addr)) (fp : List Addr), DV (X.blk s H scope (compEnvC scope cl C X.env) fp) elt fv) (hs : ∀ x, foldedSetIterable iter X.env x = pure x := by intro _; rfl) :
    DE X (.ListComp elt [⟨tg, iter, ifs, 0⟩] scope pos) (fLc fi g gt fv (own.map (·.2))) := by
  obtain ⟨wi, pi, hfi⟩ := hi
  refine ⟨_, pe_unl (pe_lc hc hN pi ok (fun s H C cl fp => (hg s H C cl fp).pg) (fun s H C cl fp => ht s H C cl fp) (fun s H C cl fp => (he s H C cl fp).pe) hs), fun B R w σ H ss G Q o hw hq => ?_⟩
  exact lc_run hv hfi B R w σ H ss G Q o hw hq
theorem ds_setLc (own : List (Str × Nat)) {i : Nat} {y : Str} (hc : X.calm = true) (hN : X.N.Nodup) (hsw : swapsWith (.ListComp elt [⟨tg, iter, ifs, 0⟩] scope pos) (some (.Name y py)) spos.line X.env = pure true) (ok : BlkOk X.N X.env.scope scope own) (hi : DI X tg iter fi)
    (hg : ∀ (s : Shared) (H : Hp) (C : Addr) (cl : List (Str × Addr)) (fp : List Addr), DG (X.blk s H scope (compEnvC scope cl C X.env) fp) vg tg g) (hv : ∀ i ∈ vg, i ∈ own.map (·.2))
    (ht : ∀ (s : Shared) (H : Hp) (C : Addr) (cl : List (Str × Addr)) (fp : List Addr), DTs (X.blk s H scope (compEnvC scope cl C X.env) fp) ifs gt)
    (he : ∀ (s : Shared) (H : Hp) (C : Addr) (cl : List (Str × Addr)) (fp : List Addr), DV (X.blk s H scope (compEnvC scope cl C X.env) fp) elt fv)
    (hy : X.N[i]? = some y := by rfl) (hyl : X.env.scope.names.lookup y = some .local := by rfl) (hs : ∀ x, foldedSetIterable iter X.env x = pure x := by intro _; rfl) :
    DS X (.Assign [.Name y py] (.ListComp elt [⟨tg, iter, ifs, 0⟩] scope pos) spos) (sSet i (fLc fi g gt fv (own.map (·.2)))) := by
  obtain ⟨wi, pi, hfi⟩ := hi
  refine ⟨_, ps_unl (ps_setLc hc hN hy hyl hsw pi ok (fun s H C cl fp => (hg s H C cl fp).pg) (fun s H C cl fp => ht s H C cl fp) (fun s H C cl fp => (he s H C cl fp).pe) hs), fun B R w σ H ss E D o hw l => ?_⟩
  refine lc_run (Q := fun v H' => D.nx (σ.set i (some v)) H') hv hfi B R w σ H ss _ o hw fun v H' r ss' w' o' rr ex h => ?_
  obtain ⟨s2, w2, o2, e2, hk⟩ := set_ok o' rr h
  exact l.nx _ H' s2 w2 o2 (ex.trans e2) hk
end

/-! ### what may be changed -/
section
variable {B : Hp} {R : Addr → Prop} {w : Wd} {σ : St} {H : Hp} {ss : SS}
/-- an own slot, a cell: its content, and the content behind -/
def onC (ro : Re) (s : SS) (f : C → (C → D → Prop) → Prop) (k : D → SS → Prop) : Prop := match ro with
  | .slo j => (match s.r[j]? with
    | some (.own c) => f c fun c' d => k d { s with r := s.r.set j (.own c') }
    | some (.val (.loc n)) => (match s.S[n]? with
      | some c => f c fun c' d => k d { s with S := s.S.set n c' }
      | none => False)
    | _ => False)
  | .val (.loc n) => (match s.S[n]? with
    | some c => f c fun c' d => k d { s with S := s.S.set n c' }
    | none => False)
  | _ => False
theorem chg_ok (o : Ok B R w σ H ss) {a : Addr} {u : HO} (hF : w.F a = none) (hB : B a = none) (hR : ¬ R a) {ss' : SS}
    (hs : ss'.r.length = ss.r.length) (hv : ∀ (i : Nat) (d : D), ss'.r[i]? = some (.val d) → ss.r[i]? = some (.val d))
    (ho : ∀ (i : Nat) (c : C), ss'.r[i]? = some (.own c) → (∃ c0, ss.r[i]? = some (.own c0)) ∧ ((w.os i ≠ a ∧ ss.r[i]? = some (.own c)) ∨ (w.os i = a ∧ Cel w (upd H a u) a c)))
    (hS : ss'.S.length = ss.S.length) (hc : ∀ (n : Nat) (c : C) (b : Addr), ss'.S[n]? = some c → w.cs[n]? = some b → (b ≠ a ∧ ss.S[n]? = some c) ∨ (b = a ∧ Cel w (upd H a u) a c)) : Ok B R w σ (upd H a u) ss' := by
  refine ⟨fun b x h => ?_, fun b x h => ?_, fun b r => ?_, fun i d e => o.vl i d (hv i d e), fun i c e => ?_, fun i j c c' e e' z => ?_, fun n c e => ?_, by rw [hS]; exact o.cl, o.cf, o.cn, by rw [hs]; exact o.ln⟩
  · unfold Rd
    rw [upd_ne (fun z => by rw [z, hF] at h; cases h)]
    exact o.le b x h
  · rw [upd_ne (fun z => by rw [z, hB] at h; cases h)]
    exact o.bs b x h
  · obtain ⟨a1, a2, x, hx⟩ := o.rs b r
    exact ⟨a1, a2, x, by rw [upd_ne (fun z : b = a => hR (z ▸ r))]; exact hx⟩
  · obtain ⟨⟨c0, e0⟩, h⟩ := ho i c e
    obtain ⟨a1, a2, a3⟩ := o.ow i c0 e0
    rcases h with ⟨ne, e1⟩ | ⟨z, x⟩
    · rw [e0] at e1; cases e1
      exact ⟨a1, a2.ext (.refl w) (upd_ne ne), a3⟩
    · exact ⟨a1, by rw [z]; exact x, a3⟩
  · obtain ⟨⟨c0, e0⟩, _⟩ := ho i c e
    obtain ⟨⟨c1, e1⟩, _⟩ := ho j c' e'
    exact o.oi i j c0 c1 e0 e1 z
  · have hn : n < ss.S.length := by rw [← hS]; exact (List.getElem?_eq_some_iff.mp e).1
    obtain ⟨b, a1, a2⟩ := o.ce n _ (List.getElem?_eq_getElem hn)
    refine ⟨b, a1, ?_⟩
    rcases hc n c b e a1 with ⟨ne, e1⟩ | ⟨z, x⟩
    · rw [List.getElem?_eq_getElem hn] at e1; cases e1
      exact a2.ext (.refl w) (upd_ne ne)
    · rw [z]; exact x
theorem onC_ok (o : Ok B R w σ H ss) {ro : Re} {v : V} (h : RepR B R w σ H ss ro v) {f : C → (C → D → Prop) → Prop} {k : D → SS → Prop} (hk : onC ro ss f k) :
    ∃ (a : Addr) (c : C) (st : C → SS), v = .ref a ∧ Cel w H a c ∧ (∀ c' u, Cel w (upd H a u) a c' → Ok B R w σ (upd H a u) (st c')) ∧ f c fun c' d => k d (st c') := by
  have cell : ∀ n, Rep w (.loc n) v → (match ss.S[n]? with
      | some c => f c fun c' d => k d { ss with S := ss.S.set n c' }
      | none => False) → ∃ (a : Addr) (c : C) (st : C → SS), v = .ref a ∧ Cel w H a c ∧ (∀ c' u, Cel w (upd H a u) a c' → Ok B R w σ (upd H a u) (st c')) ∧ f c fun c' d => k d (st c') := fun n hr hk => by
    cases e : ss.S[n]? with
    | none => simp only [e] at hk
    | some c =>
      simp only [e] at hk
      obtain ⟨a, rfl, ha⟩ := hr
      obtain ⟨a', a1, a2⟩ := o.ce n c e
      rw [ha] at a1; cases a1
      obtain ⟨f1, f2⟩ := o.cf a (List.mem_of_getElem? ha)
      have nR : ¬ R a := fun r => (o.rs a r).2.1 (List.mem_of_getElem? ha)
      refine ⟨a, c, fun c' => { ss with S := ss.S.set n c' }, rfl, a2, fun c' u x => chg_ok o f1 f2 nR rfl (fun _ _ h => h) (fun i c1 h => ⟨⟨c1, h⟩, ?_⟩) (by simp) (fun m c1 b e1 e2 => ?_), hk⟩
      · exact .inl ⟨fun z => (o.ow i c1 h).2.2.2.2.2 (z ▸ List.mem_of_getElem? ha), h⟩
      · rcases set_get e1 with ⟨m1, m2, _⟩ | ⟨ne, m2⟩
        · subst m1 m2
          rw [ha] at e2; cases e2
          exact .inr ⟨rfl, x⟩
        · refine .inl ⟨fun z => ne ?_, m2⟩
          subst z
          exact ndl o.cn e2 ha
  cases ro with
  | new c => exact hk.elim
  | val d =>
    cases d with
    | loc n => exact cell n h hk
    | _ => exact hk.elim
  | slo j =>
    have h : σ[j]? = some (some v) := h
    cases e : ss.r[j]? with
    | none => unfold onC at hk; simp only [e] at hk
    | some x =>
      cases x with
      | no => unfold onC at hk; simp only [e] at hk
      | val d =>
        obtain ⟨v', a1, a2⟩ := o.vl j d e
        rw [h] at a1; cases a1
        cases d with
        | loc n => unfold onC at hk; simp only [e] at hk; exact cell n a2 hk
        | _ => unfold onC at hk; simp only [e] at hk
      | own c =>
        unfold onC at hk; simp only [e] at hk
        obtain ⟨a1, x, h1, h2, h3, h4⟩ := o.ow j c e
        rw [h] at a1; cases a1
        refine ⟨_, c, fun c' => { ss with r := ss.r.set j (.own c') }, rfl, x, fun c' u y => chg_ok o h1 h2 h3 (by simp) (fun i d q => ?_) (fun i c1 q => ?_) rfl (fun n c1 b e1 e2 => ?_), hk⟩
        · rcases set_get q with ⟨_, q, _⟩ | ⟨_, q⟩
          · cases q
          · exact q
        · rcases set_get q with ⟨m1, m2, _⟩ | ⟨ne, q⟩
          · cases m2
            subst m1
            exact ⟨⟨c, e⟩, .inr ⟨rfl, y⟩⟩
          · exact ⟨⟨c1, q⟩, .inl ⟨fun z => ne (o.oi i j c1 c q e z), q⟩⟩
        · exact .inl ⟨fun z => h4 (z ▸ List.mem_of_getElem? e2), e1⟩
end
section
variable {X : Cx} {o e i : Expr} {es : List Expr} {pos pos' apos cpos : Pos} {fo fi' fe : WE} {fv : WV} {fs : WA}
/-- o[i] = e -/
def putC (c : C) (di d : D) (k : C → D → Prop) : Prop := match c with
  | .lst xs => ∃ i j, di = .int i ∧ ixN xs.length i = some j ∧ k (.lst (xs.set j d)) .non
  | .dic kvs => ∃ key, keyOf di = some key ∧ kvs.length < sizeLine ∧ k (.dic (putD kvs key d)) .non
def rSetA : TSet := fun o i v H Q => rSetL o i v H Q ∨ ∃ a H', o = .ref a ∧ DPut H a i v H' ∧ Q H'
theorem set_any (hu : X.A.units + 1 < cLine) : PSet X rSetA := by
  intro pins s σ H o i v ov iv u Q I ro ri rv h
  rcases h with h | ⟨a, H', rfl, g, q⟩
  · exact set_list pins s σ H o i v ov iv u Q I ro ri rv h
  · cases ro
    exact d_setItem hu I g ri rv fun s' I' => ⟨H', I', q⟩
theorem put_run {w : Wd} {H : Hp} {a : Addr} {c : C} {di d : D} {vi v : V} {k : C → D → Prop} {Q : Hp → Prop} (hc : Cel w H a c) (hi : RepT w H di vi) (hd : Rep w d v) (hk : putC c di d k) (hq : ∀ c' u, Cel w (upd H a u) a c' → k c' .non → Q (upd H a u)) : rSetA (.ref a) vi v H Q := by
  cases c with
  | lst xs =>
    obtain ⟨vs, e, r⟩ := hc
    obtain ⟨n, j, rfl, hj, hk⟩ := hk
    cases (show vi = .int _ from hi)
    exact .inl ⟨a, vs, n, j, rfl, rfl, e, by rw [r.length]; exact hj, hq (.lst _) _ ⟨_, upd_same, r.set j hd⟩ hk⟩
  | dic kvs =>
    obtain ⟨vs, e, r⟩ := hc
    obtain ⟨key, hj, hz, hk⟩ := hk
    have hi' : Rep w di vi := by cases di <;> first | exact hi | cases hj
    obtain rfl := keyOf_rep hj hi'
    exact .inr ⟨a, _, rfl, DPut.k (k := key) e (by rw [r.length]; exact hz), hq (.dic _) _ ⟨_, upd_same, r.put key hd⟩ hk⟩
def gPut (fo fi : WE) : WG := fun d s K => fo s fun ro s => fi s fun ri s => vw ri s fun di => onC ro s (fun c k => putC c di d k) fun _ s => K s
/-- a store into a place, a target -/
def plainR (ro : Re) : Prop := match ro with
  | .new _ => False
  | _ => True
theorem dg_put {tpos : Pos} (hu : X.A.units + 1 < cLine) (ho : DE X o fo) (hi : DE X i fi')
    (ha : ∀ v, assign (.Subscript o i tpos) X.env v = (do
      let ov ← holding [v] (eval o X.env)
      let iv ← holding [v, ov] (eval i X.env)
      standAt tpos
      holding [v, ov, iv] (setItem ov iv v)
      release [v, ov, iv] []) := by intro _; rfl) : DG X [] (.Subscript o i tpos) (gPut fo fi') := by
  obtain ⟨t1, p1, h1⟩ := ho
  obtain ⟨t2, p2, h2⟩ := hi
  refine ⟨_, pg_sub p1 p2 (set_any hu) ha, fun B R w σ H ss d v K Q ok r hg hq => ?_⟩
  refine h1 B R w σ H ss _ _ ok hg fun x H1 ro s1 w1 o1 r1 e1 g1 => ?_
  obtain ⟨B', R', o1', hB, hR, back⟩ := o1.hold r1
  refine h2 B' R' w1 σ H1 s1 _ _ o1' g1 fun y H2 ri s2 w2 o2 r2 e2 g2 => ?_
  obtain ⟨o2', r1'⟩ := back w2 H2 s2 o2 e2
  obtain ⟨di, rdi, hk⟩ := vw_ok o2 r2 g2
  obtain ⟨a, c, st, rfl, hc, hst, hk⟩ := onC_ok o2' r1' hk
  exact put_run hc rdi (r.ext (e1.trans e2)) hk fun c' u x hk => hq σ _ (st c') w2 (hst c' u x) (e1.trans e2) (fun _ _ => rfl) hk

/-! ### methods that change a list, a dict -/
def isLst (ro : Re) (s : SS) : Prop := vw ro s fun d => match d with
  | .lst _ => True
  | _ => False
theorem ty_lst {B : Hp} {R : Addr → Prop} {w : Wd} {σ : St} {H : Hp} {ss : SS} (o : Ok B R w σ H ss) {ro : Re} {v : V} (h : RepR B R w σ H ss ro v) (hl : isLst ro ss) : tyV X.K "list" v H := by
  obtain ⟨d, rd, hd⟩ := vw_ok o h hl
  cases d with
  | lst xs => obtain ⟨a, vs, rfl, h1, _⟩ := rd; exact .inl ⟨rfl, vs, .inl h1⟩
  | _ => exact hd.elim
/-- o.m(e) of a list, by what it makes of the list -/
def fM1 (f : C → D → (C → D → Prop) → Prop) (fo : WE) (fv : WV) : WE := fun ss G => fo ss fun ro s => isLst ro s ∧ fv s fun d s => onC ro s (fun c k => f c d k) fun d' s => G (.val d') s
theorem de_m1 {name : Str} {id : String} {r : V → List V → Hp → VK → Prop} {f : C → D → (C → D → Prop) → Prop} (slot : Slot "list" name id) (hty : typeOf (.builtin id) = pure (.type "method_descriptor")) (hm : MtR X id r)
    (hf : ∀ (w : Wd) (H : Hp) (a : Addr) (c : C) (d : D) (v : V) (k : C → D → Prop) (Q : VK), Cel w H a c → Rep w d v → f c d k → (∀ c' u d' v', Cel w (upd H a u) a c' → Rep w d' v' → k c' d' → Q v' (upd H a u)) → r (.ref a) [v] H Q)
    (ho : DE X o fo) (he : DV X e fv) (hbase : attributeBase o name X.env (eval o X.env) = eval o X.env := by rfl)
    (hfew : ((backTo cpos (starEach [e] X.env)).all (fun x => !x.1) && (backToKw cpos (keywordEach [] X.env)).all (fun x => x.1.isSome)
      && decide ([e].length + ([] : List Keyword).length + (if ([] : List Keyword).isEmpty then 0 else 1) < 30)) = true := by rfl)
    (hline : (apos.endLine == cpos.line) = true := by rfl) (hs : starEach [e] X.env = [(false, eval e X.env)] := by rfl) : DE X (.Call (.Attribute o name apos) [e] [] cpos) (fM1 f fo fv) := by
  obtain ⟨t1, p1, h1⟩ := ho
  obtain ⟨t2, p2, h2⟩ := he
  refine ⟨_, pe_bm PySem.F.plainAttrs_list slot hty hm p1 (pa_cons p2 pa_nil hs) hbase hfew hline hs rfl, fun B R w σ H ss G Q ok hw hq => h1 B R w σ H ss _ _ ok hw fun x H1 ro s1 w1 o1 r1 e1 ⟨hl, g1⟩ => ⟨ty_lst o1 r1 hl, ?_⟩⟩
  obtain ⟨B', R', o1', hB, hR, back⟩ := o1.hold r1
  refine h2 B' R' w1 σ H1 s1 _ _ o1' g1 fun y H2 d s2 w2 o2 r2 e2 g2 => ?_
  obtain ⟨o2', r1'⟩ := back w2 H2 s2 o2 e2
  obtain ⟨a, c, st, rfl, hc, hst, hk⟩ := onC_ok o2' r1' g2
  exact hf w2 H2 a c d y _ _ hc r2 hk fun c' u d' v' x rd hk => hq _ _ (.val d') (st c') w2 (hst c' u x) rd (e1.trans e2) hk
def appC : C → D → (C → D → Prop) → Prop := fun c d k => match c with
  | .lst xs => xs.length < sizeLine ∧ k (.lst (xs ++ [d])) .non
  | _ => False
theorem de_append (ho : DE X o fo) (he : DV X e fv) (hbase : attributeBase o "append" X.env (eval o X.env) = eval o X.env := by rfl)
    (hfew : ((backTo cpos (starEach [e] X.env)).all (fun x => !x.1) && (backToKw cpos (keywordEach [] X.env)).all (fun x => x.1.isSome)
      && decide ([e].length + ([] : List Keyword).length + (if ([] : List Keyword).isEmpty then 0 else 1) < 30)) = true := by rfl)
    (hline : (apos.endLine == cpos.line) = true := by rfl) (hs : starEach [e] X.env = [(false, eval e X.env)] := by rfl) : DE X (.Call (.Attribute o "append" apos) [e] [] cpos) (fM1 appC fo fv) :=
  de_m1 PySem.F.slot_list_append PySem.F.type_list_append mt_append (fun w H a c d v k Q hc rd hf hq => by
    cases c with
    | lst xs =>
      obtain ⟨vs, e, r⟩ := hc
      exact ⟨a, vs, v, rfl, rfl, e, by rw [r.length]; exact hf.1, hq (.lst _) _ .non _ ⟨_, upd_same, r.append (es := [d]) ⟨v, [], rfl, rd, rfl⟩⟩ rfl hf.2⟩
    | dic _ => exact hf.elim) ho he hbase hfew hline hs
end
/-! ### isinstance of built-in classes; bit_length -/
def tyD : D → String
  | .non => "NoneType" | .bl _ => "bool" | .int _ => "int" | .str _ => "str" | .lst _ => "list" | .tup _ => "tuple" | .dic _ => "dict" | _ => ""
def isT (t n : String) : Bool := t == n || (t == "bool" && n == "int")
def tyN : List String := ["int", "bool", "str", "list", "tuple", "dict"]
def tyT : List String := ["NoneType", "bool", "int", "str", "list", "tuple", "dict"]
theorem kit_all : (tyT.all fun t => tyN.all fun n => kitB t n == some (isT t n)) = true := by decide +kernel
theorem kit_of' {t n : String} (ht : t ∈ tyT) (hn : n ∈ tyN) : kitB t n = some (isT t n) := by
  have h := List.all_eq_true.mp (List.all_eq_true.mp kit_all t ht) n hn
  simpa using h
section
variable {X : Cx} {a b e : Expr} {fr : WR} {fe : WE} {p pos apos : Pos}
theorem ty_rep {K : PySem.W.Frag} {w : Wd} {H : Hp} (le : Le w H) {d : D} {v : V} (h : tyD d ∈ tyT) (r : RepT w H d v) : TyX K H v (.type (tyD d)) := by
  cases d with
  | non => cases (show v = .non from r); exact .base .non
  | bl x => cases (show v = .bl x from r); exact .base (.bl x)
  | int x => cases (show v = .int x from r); exact .base (.int x)
  | str x => cases (show v = .str x from r); exact .base (.str x)
  | lst xs =>
    obtain ⟨l, vs, rfl, h1, _⟩ := r
    rcases h1 with h1 | ⟨o, h1⟩
    · exact .base (.lst h1)
    · exact .base (.frz h1)
  | tup xs =>
    obtain ⟨l, vs, rfl, h1, _⟩ := (show ∃ a vs, v = .ref a ∧ w.F a = some (.tup vs) ∧ RepL w _ vs from r)
    rcases le _ _ h1 with h1 | ⟨o, h1⟩
    · exact .base (.tup h1)
    · exact .fTuple h1
  | dic xs =>
    obtain ⟨l, vs, rfl, h1, _⟩ := r
    rcases h1 with h1 | ⟨o, h1⟩
    · exact .base (.dK h1)
    · exact .fDict h1
  | loc n => exact absurd (show ("" : String) ∈ tyT from h) (by decide)
  | raw u => exact absurd (show ("" : String) ∈ tyT from h) (by decide)
def kIsi : KC := k2 fun d c P => match c with
  | .raw (.ty n) => tyD d ∈ tyT ∧ n ∈ tyN ∧ P (.val (.bl (isT (tyD d) n)))
  | _ => False
theorem cx_isi : CallX (rIsi X.K) kIsi := callX2 fun w H d c v v' P Q le rd rc hk hq => by
  split at hk
  · obtain ⟨h1, h2, hp⟩ := hk
    cases (show v' = .ty _ from rc)
    exact ⟨v, .ty _, .type (tyD d), .type _, _, rfl, .ty _, ty_rep le h1 rd, kit_ty (kit_of' h1 h2), hq.old _ (.bl _) rfl hp⟩
  · exact hk.elim
theorem de_isi (hm : X.mg "isinstance" = none) (hg : Gl X "isinstance" := by rfl) (ha : DR X [a, b] fr) (he : starEach [a, b] X.env = (false, eval a X.env) :: starEach [b] X.env := by rfl) (hpl : (backTo pos (starEach [b] X.env)).any (·.1) = false := by rfl) : DE X (.Call (.Name "isinstance" p) [a, b] [] pos) (fBlt kIsi fr) :=
  de_blt call_isi cx_isi hm boot_isinstance hg ha (by decide) (by decide) he hpl
/-- a built-in class by its name -/
theorem de_ty {x : Str} {n : String} (hm : X.mg x = none) (hv : bootBuiltins x = some (.type n)) (hg : Gl X x) (hn : x ≠ "__name__" := by decide) (hd : (x == ("__debug__" : Str)) = false := by decide) : DE X (.Name x pos) (fCon (.raw (.ty n))) :=
  de_con (pe_bltn hg hm hv (show RelV (.ty n) (.type n) from rfl) hn hd) fun _ => rfl
def fBits (fe : WE) : WE := fun ss G => fe ss fun r s => isI r fun i => G (.val (.int (Builtin.Int.intBits i))) s
theorem de_bits {o : Expr} {cpos : Pos} (ho : DE X o fe) (hbase : attributeBase o "bit_length" X.env (eval o X.env) = eval o X.env := by rfl) (hline : (apos.endLine == cpos.line) = true := by rfl) : DE X (.Call (.Attribute o "bit_length" apos) [] [] cpos) (fBits fe) := by
  obtain ⟨t, p, hf⟩ := ho
  refine ⟨_, pe_bits p hbase hline, fun B R w σ H ss G Q ok hw hq => hf B R w σ H ss _ _ ok hw fun v H' r ss' w' o' rr ex hg => ?_⟩
  unfold isI at hg
  split at hg
  · exact ⟨_, rr, hq _ H' (.val (.int _)) ss' w' o' rfl ex hg⟩
  · exact hg.elim
end
end Vl
namespace Vl
open PySem PySem.Spec L2
open PyProof.Rows hiding St

/-! ### a def's body, and what it promises -/
def enOf (G : Re → List C → Prop) : En := ⟨fun ss => G (.val .non) ss.S, G, fun _ => False, fun _ => False⟩
def startS (N : List Str) (ds : List D) (S : List C) : SS := { r := ds.map SV.val ++ List.replicate (N.length - ds.length) SV.no, S := S }
theorem ok_start {w : Wd} {H : Hp} {S : List C} {ds : List D} {vs : List V} (p : Pre w H S) (r : RepL w ds vs) (N : List Str) : Ok (bOf w H) (rOf w H) w (L2.start N vs) H (startS N ds S) := by
  have hl := r.length
  have hv : ∀ (i : Nat) (x : SV), (startS N ds S).r[i]? = some x → (∃ d v, x = .val d ∧ (L2.start N vs)[i]? = some (some v) ∧ Rep w d v) ∨ x = .no := fun i x e => by
    unfold startS at e
    by_cases q : i < ds.length
    · rw [List.getElem?_append_left (by rw [List.length_map]; exact q), List.getElem?_map] at e
      rw [List.getElem?_eq_getElem q] at e
      obtain ⟨v, hv, rv⟩ := r.get (List.getElem?_eq_getElem q)
      refine .inl ⟨ds[i], v, (Option.some.inj e).symm, ?_, rv⟩
      unfold L2.start
      rw [List.getElem?_append_left (by rw [List.length_map, hl]; exact q), List.getElem?_map, hv]
      rfl
    · rw [List.getElem?_append_right (by rw [List.length_map]; omega)] at e
      have := List.eq_of_mem_replicate (List.mem_of_getElem? e)
      exact .inr this
  refine ⟨p.le, fun b o h => ?_, fun a h => ⟨h.2.1, h.2.2, h.1⟩, fun i d e => ?_, fun i c e => ?_, fun i j c c' e => ?_, p.ce, p.cl, fun a m => ⟨p.cf a m, bOf_in m⟩, p.cn, ?_⟩
  · by_cases m : b ∈ w.cs
    · rw [bOf_in m] at h; cases h
    · rw [bOf_out m] at h; exact h
  · rcases hv i _ e with ⟨d', v, e1, e2, e3⟩ | e1
    · cases e1; exact ⟨v, e2, e3⟩
    · cases e1
  · rcases hv i _ e with ⟨d', v, e1, e2, e3⟩ | e1
    · cases e1
    · cases e1
  · rcases hv i _ e with ⟨d', v, e1, e2, e3⟩ | e1
    · cases e1
    · cases e1
  · unfold startS L2.start
    simp [hl]
theorem fn_ok {P : Program} {w : World} {K : PySem.W.Frag} {mg : Str → Option Value} {base : Heap} {x qual : Str} {st : Stmt} {f : Addr} {fd : FuncData} {N ps : List Str} {k : Nat} {c : Ct} (F : Fun K x qual st f fd) (S : FnScope N ps (defScope st))
    (len : ∀ ds S G, c ds S G → ds.length = ps.length) (hbody : ∃ fb : WS, (∀ (cdv : Value) (A : Around) (outer : List Env) (s : Shared) (H : Hp) (E : XK), Room k (A.deeper (envOfC qual (defScope st) s.heap.objs.size f cdv)) → DSs (cxOf CX0 P w K mg base N qual (defScope st) f cdv A outer s H E).nox (defBody st) fb) ∧
      ∀ ds S G, c ds S G → fb (enOf G) (startS N ds S)) : FnOk P w K mg base CX0 (k + 1) f fd ps (specOf c) := by
  obtain ⟨fb, h1, h2⟩ := hbody
  refine F.ok S (fun vs H Q E h => ?_) (fun cdv A outer s H vs Q E hr h => ?_)
  · obtain ⟨w1, ds, S1, G, p, r, hc, _⟩ := h
    rw [r.length]; exact len ds S1 G hc
  · obtain ⟨w1, ds, S1, G, p, r, hc, hQ⟩ := h
    obtain ⟨t, pt, ht⟩ := h1 cdv A outer s H E hr
    refine ⟨t, pt, ht _ _ w1 _ H _ (enOf G) _ (ok_start p r N) (h2 ds S1 G hc) ⟨fun σ' H' ss' w' o ex h => ?_, fun v σ' H' r ss' w' o rr ns ex h => ?_, fun σ' H' ss' w' o ex h => h.elim, fun σ' H' ss' w' o ex h => h.elim⟩⟩
    · exact hQ .non H' ⟨.val .non, w', σ', ss', o, rfl, trivial, ex, h⟩
    · exact hQ v H' ⟨r, w', σ', ss', o, rr, ns, ex, h⟩

/-- a def of the module as it may be called -/
structure FnC (P : Program) (w : World) (K : PySem.W.Frag) (mg : Str → Option Value) (base : Heap) (x : Str) (st : Stmt) (ps : List Str) (c : Ct) (k : Nat) : Prop where
  ex : ∃ (f : Addr) (fd : FuncData), Fun K x x st f fd ∧ mg x = some (.ref f) ∧ FnOk P w K mg base CX0 k f fd ps (specOf c) ∧ Binds K fd ps []
/-- keywords -/
def DK (X : Cx) (kws : List Keyword) (f : WA) : Prop := ∃ t, PK X kws t ∧ ∀ (B : Hp) (R : Addr → Prop) (w : Wd) (σ : St) (H : Hp) (ss : SS) (G : List D → SS → Prop) (Q : List V → Hp → Prop), Ok B R w σ H ss → f ss G →
  (∀ vs H' ds ss' w', Ok B R w' σ H' ss' → RepL w' ds vs → Ext w w' → G ds ss' → Q vs H') → t σ H Q
section
variable {X : Cx} {e : Expr} {es : List Expr} {kws : List Keyword} {fs gs : WA} {fe : WE} {c : Ct} {k j : Nat} {x : Str} {st : Stmt} {ps ks : List Str} {p pos kpos : Pos} {nm : Option Str}
theorem de_fn (F : FnC X.prog X.w X.K X.mg X.base x st ps c k) (ha : DA X (e :: es) fs) (hr : Room j X.A) (hj : k ≤ j := by decide) (hg : Gl X x := by rfl)
    (hdb : (x == ("__debug__" : Str)) = false := by decide) (he : starEach (e :: es) X.env = (false, eval e X.env) :: starEach es X.env := by rfl) (hpl : (backTo pos (starEach es X.env)).any (·.1) = false := by rfl) :
    DE X (.Call (.Name x p) (e :: es) [] pos) (fCall c [] fs) := by
  obtain ⟨f, fd, hF, hm, hok, hb⟩ := F.ex
  exact de_call hok hm hF.kp hb .nil (fun w => rfl) hr hj hg ha hdb he hpl
theorem de_fn0 (F : FnC X.prog X.w X.K X.mg X.base x st ps c k) (hr : Room j X.A) (hj : k ≤ j := by decide) (hg : Gl X x := by rfl) (hdb : (x == ("__debug__" : Str)) = false := by decide) : DE X (.Call (.Name x p) [] [] pos) (fCall c [] fNil) := by
  obtain ⟨f, fd, hF, hm, hok, hb⟩ := F.ex
  exact de_call0 hok hm hF.kp hb .nil (fun w => rfl) hr hj hg hdb
theorem dk_nil : DK X [] fNil := ⟨_, pk_nil, fun B R w σ H ss G Q o hw hq => hq [] H [] ss w o rfl (.refl w) hw⟩
theorem dk_cons {fv : WV} (h1 : DV X e fv) (h2 : DK X kws fs) : DK X (⟨nm, e, kpos⟩ :: kws) (fCons fv fs) := by
  obtain ⟨t, p, hf⟩ := h1
  obtain ⟨t2, p2, hf2⟩ := h2
  refine ⟨_, pk_cons p p2, fun B R w σ H ss G Q o hw hq => hf B R w σ H ss _ _ o hw fun v H1 d s1 w1 o1 r1 e1 h1 => ?_⟩
  refine hf2 B R w1 σ H1 s1 _ _ o1 h1 fun vs H3 ds s3 w3 o3 r3 e3 h3 => ?_
  exact hq (v :: vs) H3 (d :: ds) s3 w3 o3 ⟨v, vs, rfl, r1.ext e3, r3⟩ (e1.trans e3) h3
/-- f(e, .., k = v, ..) -/
def fCallK (c : Ct) (n m : Nat) (g : List D → List D → List D) (fs gs : WA) : WE := fun ss G => fs ss fun ds s => gs s fun zs s => ds.length = n ∧ zs.length = m ∧ c (g ds zs) s.S fun r S' => G r { r := s.r, S := S' }
theorem fn_back {f : Addr} {fd : FuncData} (F : FnOk X.prog X.w X.K X.mg X.base CX0 k f fd ps (specOf c)) (hr : Room k X.A) {pins : List (Addr × Obj)} {σ : St} {H : Hp} {s : Shared} {Q : VK} {args : Args} {us : List Value} {vs : List V}
    (I : Inv X pins σ H s) (hb : BindsTo s fd args (ps.zip us)) (r : Vals vs us) (h : specOf c vs H Q E0) : wpAny (model X.prog X.w) X.A (call (.ref f) args.pos args.kw) (EP X pins σ Q) X.xe s := by
  refine wpAny_call (codeAny_mono (F.run X.A X.stack s H args us vs Q E0 hr I.env0 hb r h) fun r s' hq => ?_)
  cases r with
  | error e => exact hq.elim
  | ok fl =>
    cases fl with
    | ret u => exact I.after hq
    | next => exact False.elim hq
    | brk => exact False.elim hq
    | cont => exact False.elim hq
def tCallN0 (m : Nat) (sp : Sp) (gV : List V → List V → List V) (t tk : TA) : TE := fun σ H Q => t σ H fun vs H1 => tk σ H1 fun zs H2 => vs.length = m ∧ sp (gV vs zs) H2 Q E0
/-- how keywords bind -/
def KwB (x : Str) (st : Stmt) (ps ks : List Str) (n : Nat) (g : {α : Type} → List α → List α → List α) : Prop :=
  ∀ (kV doc pm : Value) (an : Option Addr) (cdv ct : Value) (us ws : List Value), us.length = n → ws.length = ks.length → bindArgs (PySem.W.fnOf x x (defArgs st) (defBody st) (defScope st) .none kV doc pm an cdv ct) ⟨us, ks.zip ws⟩ = pure (ps.zip (g us ws))
theorem de_fnK {n : Nat} (g : {α : Type} → List α → List α → List α) (F : FnC X.prog X.w X.K X.mg X.base x st ps c k) (hb : KwB x st ps ks n g) (hgr : ∀ {vs us zs ws}, Vals vs us → Vals zs ws → Vals (g vs zs) (g us ws)) (hgw : ∀ {w ds vs es us}, RepL w ds vs → RepL w es us → RepL w (g ds es) (g vs us))
    (ha : DA X (e :: es) fs) (hkw : DK X kws gs) (hr : Room j X.A) (hall : (backToKw pos (keywordEach kws X.env)).all (·.1.isSome) = true := by rfl) (hks : (backToKw pos (keywordEach kws X.env)).filterMap (·.1) = ks := by rfl) (hj : k ≤ j := by decide) (hg : Gl X x := by rfl)
    (hdb : (x == ("__debug__" : Str)) = false := by decide) (he : starEach (e :: es) X.env = (false, eval e X.env) :: starEach es X.env := by rfl)
    (hpl : ((backTo pos (starEach (e :: es) X.env)).any (·.1) || (backToKw pos (keywordEach kws X.env)).any (·.1.isNone)) = false := by rfl) :
    DE X (.Call (.Name x p) (e :: es) kws pos) (fCallK c n ks.length g fs gs) := by
  obtain ⟨f, fd, hF, hm, hok, _⟩ := F.ex
  obtain ⟨oc, od, kV, doc, pm, an, cdv, ct, osl, rfl, lk, hcd⟩ := hF.ex
  obtain ⟨t, pa, hf⟩ := ha
  obtain ⟨t2, pk, hf2⟩ := hkw
  have kb : KBn X.K _ ps n ks g g := ⟨fun s us ws _ l1 l2 => .of_eq (hb kV doc pm an cdv ct us ws l1 l2), hgr⟩
  refine ⟨_, pe_callN hok (hr.mono hj) hg hm hF.kp kb pass0 pa pk hall hks hdb he hpl, fun B R w σ H ss G Q o hw hq => hf B R w σ H ss _ _ o hw fun vs H1 ds s1 w1 o1 r1 e1 h1 => ?_⟩
  refine hf2 B R w1 σ H1 s1 _ _ o1 h1 fun zs H2 es s2 w2 o2 r2 e2 h2 => ?_
  obtain ⟨l1, l2, h2⟩ := h2
  refine ⟨r1.length.trans l1, r2.length.trans l2, w2, g ds es, s2.S, _, o2.pre, hgw (r1.ext e2) r2, h2, fun v H' p => ?_⟩
  obtain ⟨r, s3, w3, o3, r3, e3, hs, g3⟩ := o2.called p
  refine hq v H' r s3 w3 o3 r3 (e1.trans (e2.trans e3)) ?_
  have : s3 = { r := s2.r, S := s3.S } := by rw [← hs]
  rw [this]; exact g3
/-- f(k = v, ..) -/
theorem de_fnK0 (g : {α : Type} → List α → List α → List α) (F : FnC X.prog X.w X.K X.mg X.base x st ps c k) (hb : KwB x st ps ks 0 g) (hgr : ∀ {vs us zs ws}, Vals vs us → Vals zs ws → Vals (g vs zs) (g us ws)) (hgw : ∀ {w ds vs es us}, RepL w ds vs → RepL w es us → RepL w (g ds es) (g vs us))
    (hkw : DK X kws gs) (hr : Room j X.A) (hall : (backToKw pos (keywordEach kws X.env)).all (·.1.isSome) = true := by rfl) (hks : (backToKw pos (keywordEach kws X.env)).filterMap (·.1) = ks := by rfl) (hj : k ≤ j := by decide) (hg : Gl X x := by rfl)
    (hdb : (x == ("__debug__" : Str)) = false := by decide)
    (hpl : ((backTo pos (starEach [] X.env)).any (·.1) || (backToKw pos (keywordEach kws X.env)).any (·.1.isNone)) = false := by rfl) :
    DE X (.Call (.Name x p) [] kws pos) (fCallK c 0 ks.length g fNil gs) := by
  obtain ⟨f, fd, hF, hm, hok, _⟩ := F.ex
  obtain ⟨oc, od, kV, doc, pm, an, cdv, ct, osl, rfl, lk, hcd⟩ := hF.ex
  obtain ⟨t2, pk, hf2⟩ := hkw
  have hr1 := hr.mono hj
  refine ⟨fun σ H Q => t2 σ H fun zs H2 => zs.length = ks.length ∧ specOf c (g [] zs) H2 Q E0, ⟨fun pins s σ H Q I h => ?_⟩, fun B R w σ H ss G Q o hw hq => ?_⟩
  · refine wpAny_Call_Name_kw (ld_glob I hg hm ?_ hdb)
    refine PySem.W.callWith_KW0 (h₀ := X.base) I.ok.mod.kin hF.kp hall ?_ hpl
    refine thn (pk.run pos pins s σ H _ I h) fun ws s2 ⟨zs, H2, I2, rz, l2, q2⟩ => ⟨I2.kIn, ?_⟩
    rw [hks]
    exact fn_back hok hr1 I2 (args := ⟨[], ks.zip ws⟩) (us := g [] ws) (.of_eq (hb kV doc pm an cdv ct [] ws rfl (rz.length.symm.trans l2))) (hgr .nil rz) q2
  · refine hf2 B R w σ H ss _ _ o hw fun zs H2 es s2 w2 o2 r2 e2 h2 => ?_
    obtain ⟨l1, l2, h2⟩ := h2
    refine ⟨r2.length.trans l2, w2, g [] es, s2.S, _, o2.pre, hgw (ds := []) (vs := []) rfl r2, h2, fun v H' p => ?_⟩
    obtain ⟨r, s3, w3, o3, r3, e3, hs, g3⟩ := o2.called p
    refine hq v H' r s3 w3 o3 r3 (e2.trans e3) ?_
    have : s3 = { r := s2.r, S := s3.S } := by rw [← hs]
    rw [this]; exact g3
end

/-! ### a, b = x, y -/
section
variable {X : Cx} {a b c : Expr} {fs : WA} {pos pt pt2 px py pz : Pos} {kt k2} {x y z : Str}
def putL (is : List Nat) (ds : List D) (r : List SV) : List SV := match is, ds with
  | i :: is, d :: ds => putL is ds (r.set i (.val d))
  | _, _ => r
def sPar2 (i j : Nat) (fs : WA) : WS := fun E ss => fs ss fun ds s => match ds with
  | [d, e] => E.nx { s with r := (s.r.set i (.val d)).set j (.val e) }
  | _ => False
def sPar3 (i j l : Nat) (fs : WA) : WS := fun E ss => fs ss fun ds s => match ds with
  | [d, e, g] => E.nx { s with r := ((s.r.set i (.val d)).set j (.val e)).set l (.val g) }
  | _ => False
theorem ds_par (i j : Nat) (hN : X.N.Nodup) (ha : DA X [a, b] fs) (hc : X.calm = true := by rfl) (hi : X.N[i]? = some x := by rfl) (hj : X.N[j]? = some y := by rfl) (hij : i ≠ j := by decide)
    (hx : X.env.scope.names.lookup x = some .local := by rfl) (hy : X.env.scope.names.lookup y = some .local := by rfl)
    (hw : swappedStores [.Tuple [.Name x px, .Name y py] kt pt] (.Tuple [a, b] k2 pt2) X.env = pure (some [x, y]) := by rfl)
    (hs : swapsWithSole [.Tuple [.Name x px, .Name y py] kt pt] (.Tuple [a, b] k2 pt2) pos.line X.env = pure false := by rfl) :
    DS X (.Assign [.Tuple [.Name x px, .Name y py] kt pt] (.Tuple [a, b] k2 pt2) pos) (sPar2 i j fs) := by
  obtain ⟨t, p, hf⟩ := ha
  refine ⟨_, ps_par hc hN hi hj hij hx hy p hw hs, fun B R w σ H ss E D o hw l => hf B R w σ H ss _ _ o hw fun vs H1 ds s1 w1 o1 r1 e1 h1 => ?_⟩
  match ds, h1 with
  | [d, e], h1 =>
    obtain ⟨v, us, rfl, q1, u, us2, rfl, q2, rfl⟩ := r1
    exact ⟨v, u, rfl, l.nx _ H1 _ w1 (set_val (set_val o1 q1 i) q2 j) e1 h1⟩
theorem ds_par3 (i j n : Nat) (hN : X.N.Nodup) (ha : DA X [a, b, c] fs) (hc : X.calm = true := by rfl) (hi : X.N[i]? = some x := by rfl) (hj : X.N[j]? = some y := by rfl) (hl : X.N[n]? = some z := by rfl) (hij : i ≠ j := by decide) (hil : i ≠ n := by decide) (hjl : j ≠ n := by decide)
    (hx : X.env.scope.names.lookup x = some .local := by rfl) (hy : X.env.scope.names.lookup y = some .local := by rfl) (hz : X.env.scope.names.lookup z = some .local := by rfl)
    (hw : swappedStores [.Tuple [.Name x px, .Name y py, .Name z pz] kt pt] (.Tuple [a, b, c] k2 pt2) X.env = pure (some [x, y, z]) := by rfl)
    (hs : swapsWithSole [.Tuple [.Name x px, .Name y py, .Name z pz] kt pt] (.Tuple [a, b, c] k2 pt2) pos.line X.env = pure false := by rfl) :
    DS X (.Assign [.Tuple [.Name x px, .Name y py, .Name z pz] kt pt] (.Tuple [a, b, c] k2 pt2) pos) (sPar3 i j n fs) := by
  obtain ⟨t, p, hf⟩ := ha
  refine ⟨_, ps_par3 hc hN hi hj hl hij hil hjl hx hy hz p hw hs, fun B R w σ H ss E D o hw l => hf B R w σ H ss _ _ o hw fun vs H1 ds s1 w1 o1 r1 e1 h1 => ?_⟩
  match ds, h1 with
  | [d, e, g], h1 =>
    obtain ⟨v, us, rfl, q1, u, us2, rfl, q2, u3, us3, rfl, q3, rfl⟩ := r1
    exact ⟨v, u, u3, rfl, l.nx _ H1 _ w1 (set_val (set_val (set_val o1 q1 i) q2 j) q3 n) e1 h1⟩
end

theorem hU {A : Around} {k : Nat} (hr : Room k A) : A.units + 64 < cLine := hr.units
theorem hU1 {A : Around} {k : Nat} (hr : Room k A) : A.units + 1 < cLine := hu_of hr
end Vl
namespace Vl
open PySem PySem.Spec L2
open PyProof.Rows hiding St

theorem hU5 {A : Around} {k : Nat} (hr : Room k A) : A.units + 65 < cLine := by have := hr.un; omega
/-! ### a <= b <= c, of ints -/
section
variable {X : Cx} {a b c : Expr} {fa fb fc : WE} {pos : Pos}
def fCh (p q : Int → Int → Bool) (fa fb fc : WE) : WE := fun ss G => fa ss fun r s => isI r fun i => fb s fun r s => isI r fun j => if p i j = true then fc s fun r s => isI r fun k => G (.val (.bl (q j k))) s else G (.val (.bl false)) s
theorem isI_inv {r : Re} {k : Int → Prop} (h : isI r k) : ∃ i, r = .val (.int i) ∧ k i := by
  unfold isI at h
  split at h
  · exact ⟨_, rfl, h⟩
  · exact h.elim
theorem ch_run {p q : Int → Int → Bool} {ta tb tc : TE} (ha : ∀ (B : Hp) (R : Addr → Prop) (w : Wd) (σ : St) (H : Hp) (ss : SS) (G : Re → SS → Prop) (Q : VK), Ok B R w σ H ss → fa ss G → (∀ v H' r ss' w', Ok B R w' σ H' ss' → RepR B R w' σ H' ss' r v → Ext w w' → G r ss' → Q v H') → ta σ H Q)
    (hb : ∀ (B : Hp) (R : Addr → Prop) (w : Wd) (σ : St) (H : Hp) (ss : SS) (G : Re → SS → Prop) (Q : VK), Ok B R w σ H ss → fb ss G → (∀ v H' r ss' w', Ok B R w' σ H' ss' → RepR B R w' σ H' ss' r v → Ext w w' → G r ss' → Q v H') → tb σ H Q)
    (hc : ∀ (B : Hp) (R : Addr → Prop) (w : Wd) (σ : St) (H : Hp) (ss : SS) (G : Re → SS → Prop) (Q : VK), Ok B R w σ H ss → fc ss G → (∀ v H' r ss' w', Ok B R w' σ H' ss' → RepR B R w' σ H' ss' r v → Ext w w' → G r ss' → Q v H') → tc σ H Q)
    (B : Hp) (R : Addr → Prop) (w : Wd) (σ : St) (H : Hp) (ss : SS) (G : Re → SS → Prop) (Q : VK) (o : Ok B R w σ H ss) (hw : fCh p q fa fb fc ss G)
    (hq : ∀ v H' r ss' w', Ok B R w' σ H' ss' → RepR B R w' σ H' ss' r v → Ext w w' → G r ss' → Q v H') : tChain (rI0 fun i j => .bl (p i j)) (rI0 fun i j => .bl (q i j)) ta tb tc σ H Q := by
  refine ha B R w σ H ss _ _ o hw fun x H1 r s1 w1 o1 r1 e1 h1 => ?_
  obtain ⟨i, rfl, g1⟩ := isI_inv h1
  cases (show x = .int i from r1)
  refine hb B R w1 σ H1 s1 _ _ o1 g1 fun y H2 r s2 w2 o2 r2 e2 h2 => ?_
  obtain ⟨j, rfl, g2⟩ := isI_inv h2
  cases (show y = .int j from r2)
  refine ⟨i, j, rfl, rfl, p i j, rfl, ?_⟩
  split
  · rename_i hp
    rw [if_pos hp] at g2
    refine hc B R w2 σ H2 s2 _ _ o2 g2 fun z H3 r s3 w3 o3 r3 e3 h3 => ?_
    obtain ⟨k, rfl, g3⟩ := isI_inv h3
    cases (show z = .int k from r3)
    exact ⟨j, k, rfl, rfl, hq _ H3 (.val (.bl (q j k))) s3 w3 o3 rfl (e1.trans (e2.trans e3)) g3⟩
  · rename_i hp
    rw [if_neg hp] at g2
    exact hq _ H2 (.val (.bl false)) s2 w2 o2 rfl (e1.trans e2) g2
theorem dt_lele (ha : DE X a fa) (hb : DE X b fb) (hc : DE X c fc) (hm : lastMarks [.LtE, .LtE] [b, c] = false := by with_unfolding_all rfl) : DT X (.Compare a [.LtE, .LtE] [b, c] pos) (fT (fCh (fun i j => decide (i ≤ j)) (fun i j => decide (i ≤ j)) fa fb fc)) := by
  obtain ⟨ta, pa, ka⟩ := ha
  obtain ⟨tb, pb, kb⟩ := hb
  obtain ⟨tc, pc, kc⟩ := hc
  exact dt_of (pt_chain op_le op_le pa pb pc hm) (ch_run ka kb kc)
theorem dt_ltlt (ha : DE X a fa) (hb : DE X b fb) (hc : DE X c fc) (hm : lastMarks [.Lt, .Lt] [b, c] = false := by with_unfolding_all rfl) : DT X (.Compare a [.Lt, .Lt] [b, c] pos) (fT (fCh (fun i j => decide (i < j)) (fun i j => decide (i < j)) fa fb fc)) := by
  obtain ⟨ta, pa, ka⟩ := ha
  obtain ⟨tb, pb, kb⟩ := hb
  obtain ⟨tc, pc, kc⟩ := hc
  exact dt_of (pt_chain op_lt op_lt pa pb pc hm) (ch_run ka kb kc)
end

/-! ### lists related one by one -/
theorem repL_rel {w : Wd} : ∀ {ds : List D} {vs : List V}, RepL w ds vs → Paired (Rep w) ds vs
  | [], _, h => by cases (show _ = [] from h); exact .nil
  | d :: ds, _, h => by obtain ⟨v, us, rfl, h1, h2⟩ := h; exact .cons h1 (repL_rel h2)
theorem rel_repL {w : Wd} {ds : List D} {vs : List V} (h : Paired (Rep w) ds vs) : RepL w ds vs := by
  induction h with
  | nil => rfl
  | cons a b ih => exact ⟨_, _, rfl, a, ih⟩

/-! ### the head: the script -/
def noLst (K : PySem.W.Frag) : Bool := K.all fun p => !(p.2.cls == .type "list")
theorem noLst_lookup {a : Addr} {o : Obj} : ∀ {K : PySem.W.Frag}, noLst K = true → K.lookup a = some o → o.cls ≠ .type "list"
  | [], _, h => by cases h
  | (b, u) :: K, hk, h => by
    unfold noLst at hk
    rw [List.all_cons, Bool.and_eq_true] at hk
    rw [List.lookup_cons] at h
    cases e : (a == b) with
    | true =>
      rw [e] at h
      have h : some u = some o := h
      cases h
      intro z
      have := hk.1
      rw [z] at this
      revert this
      decide +kernel
    | false =>
      rw [e] at h
      exact noLst_lookup (K := K) hk.2 h
def oneH (a : Addr) (u : HO) : Hp := L2.upd (fun _ => none) a u
theorem oneH_same {a : Addr} {u : HO} : oneH a u a = some u := L2.upd_same
theorem oneH_of {a b : Addr} {u x : HO} (h : oneH a u b = some x) : b = a ∧ x = u := by
  unfold oneH L2.upd at h
  split at h
  · cases h; exact ⟨by assumption, rfl⟩
  · cases h
theorem script_in {K : PySem.W.Frag} {H : Hp} {a : Addr} {ns : List Int} {c : Ct} {E : XK} (hK : noLst K = true) (hS : SqL K H a (ns.map V.int)) (hc : c [.lst (ns.map D.int)] [] (fun r _ => r = .val (.bl true))) :
    specOf c [.ref a] H (fun v _ => v = .bl true) E := by
  have hr : Rd H a (.lst (ns.map V.int)) := by
    rcases hS with h | ⟨o, its, n, h1, h2, _⟩
    · exact h
    · exact (noLst_lookup hK h1 h2).elim
  refine ⟨{ F := oneH a (.lst (ns.map V.int)), cs := [], os := fun _ => 0 }, [.lst (ns.map D.int)], [], _, ⟨fun b u e => ?_, fun n c e => by simp at e, rfl, fun b m => by simp at m, .nil⟩, ⟨_, [], rfl, ⟨a, _, rfl, oneH_same, RepL.of_ints ns⟩, rfl⟩, hc, fun v H' p => ?_⟩
  · obtain ⟨rfl, rfl⟩ := oneH_of e
    exact hr
  · obtain ⟨r, w', σ', ss', o, rr, _, _, g⟩ := p
    have g : r = .val (.bl true) := g
    subst g
    exact rr
theorem bt_int : bootBuiltins "int" = some (.type "int") := by decide +kernel
theorem bt_bool : bootBuiltins "bool" = some (.type "bool") := by decide +kernel
theorem bt_str : bootBuiltins "str" = some (.type "str") := by decide +kernel
theorem bt_list : bootBuiltins "list" = some (.type "list") := by decide +kernel
theorem bt_dict : bootBuiltins "dict" = some (.type "dict") := by decide +kernel
theorem bt_tuple : bootBuiltins "tuple" = some (.type "tuple") := by decide +kernel
end Vl
namespace Vl
open PySem PySem.Spec L2
open PyProof.Rows hiding St

/-! ### walks by invariants -/
theorem loop_inv' {g : WG} {f : WS} (I : Nat → SS → Prop) (E : En) : ∀ (ds : List D) (j : Nat) (s : SS),
    (∀ i d s, ds[i]? = some d → I (j + i) s → ∀ P : SS → Prop, (∀ s', I (j + i + 1) s' → P s') → g d s fun s1 => f { E with nx := P, ct := P, bk := E.nx } s1) → (∀ s, I (j + ds.length) s → E.nx s) → I j s → loopW g f ds E s
  | [], j, s, _, fin, h => fin s h
  | d :: ds, j, s, step, fin, h => by
    unfold loopW
    refine step 0 d s rfl h _ fun s' h' => ?_
    refine loop_inv' I E ds (j + 1) s' (fun i d s e hi P hP => ?_) (fun s hs => fin s (by rw [List.length_cons]; exact (by rw [Nat.add_right_comm] at hs; exact hs))) h'
    have e1 : j + 1 + i = j + (i + 1) := by omega
    rw [e1] at hi hP
    exact step (i + 1) d s e hi P hP
/-- for: an invariant by turns -/
theorem loop_inv {g : WG} {f : WS} {E : En} {ds : List D} {s : SS} (I : Nat → SS → Prop) (h : I 0 s)
    (step : ∀ i d s, ds[i]? = some d → I i s → ∀ P : SS → Prop, (∀ s', I (i + 1) s' → P s') → g d s fun s1 => f { E with nx := P, ct := P, bk := E.nx } s1) (fin : ∀ s, I ds.length s → E.nx s) : loopW g f ds E s :=
  loop_inv' I E ds 0 s (fun i d s e hi P hP => step i d s e (by rwa [Nat.zero_add] at hi) P (by rwa [Nat.zero_add] at hP)) (fun s hs => fin s (by rwa [Nat.zero_add] at hs)) h
theorem comp_inv' {g : WG} {gt : WT} {fe : WV} {vs : List Nat} {K : List D → SS → Prop} (I : Nat → List D → SS → Prop) : ∀ (ds : List D) (j : Nat) (acc : List D) (s : SS),
    (∀ i d acc s, ds[i]? = some d → I (j + i) acc s → ∀ P : Option D → SS → Prop, (∀ s', I (j + i + 1) acc s' → P none s') → (∀ y s', I (j + i + 1) (acc ++ [y]) s' → P (some y) s') → g d s fun s1 => gt s1 fun b s2 => if b = true then fe s2 fun y s3 => P (some y) (wipeS vs s3) else P none (wipeS vs s2)) →
    acc.length + ds.length ≤ sizeLine → (∀ acc s, I (j + ds.length) acc s → K acc s) → I j acc s → compW g gt fe vs ds acc s K
  | [], j, acc, s, _, _, fin, h => fin acc s h
  | d :: ds, j, acc, s, step, hl, fin, h => by
    unfold compW
    rw [List.length_cons] at hl
    have nxt : ∀ acc' s', acc'.length + ds.length ≤ sizeLine → I (j + 1) acc' s' → compW g gt fe vs ds acc' s' K := fun acc' s' hl' h' => by
      refine comp_inv' I ds (j + 1) acc' s' (fun i d acc s e hi P h0 h1 => ?_) hl' (fun acc s hs => fin acc s (by rw [List.length_cons]; exact (by rw [Nat.add_right_comm] at hs; exact hs))) h'
      have e1 : j + 1 + i = j + (i + 1) := by omega
      rw [e1] at hi h0 h1
      exact step (i + 1) d acc s e hi P h0 h1
    exact step 0 d acc s rfl h (fun o s' => match o with | some y => acc.length < sizeLine ∧ compW g gt fe vs ds (acc ++ [y]) s' K | none => compW g gt fe vs ds acc s' K) (fun s' h' => nxt acc s' (by omega) h')
      fun y s' h' => ⟨by omega, nxt _ s' (by rw [List.length_append, List.length_singleton]; omega) h'⟩
/-- [..]: an invariant by turns -/
theorem comp_inv {g : WG} {gt : WT} {fe : WV} {vs : List Nat} {K : List D → SS → Prop} {ds : List D} {s : SS} (I : Nat → List D → SS → Prop) (h : I 0 [] s) (hl : ds.length ≤ sizeLine)
    (step : ∀ i d acc s, ds[i]? = some d → I i acc s → ∀ P : Option D → SS → Prop, (∀ s', I (i + 1) acc s' → P none s') → (∀ y s', I (i + 1) (acc ++ [y]) s' → P (some y) s') → g d s fun s1 => gt s1 fun b s2 => if b = true then fe s2 fun y s3 => P (some y) (wipeS vs s3) else P none (wipeS vs s2))
    (fin : ∀ acc s, I ds.length acc s → K acc s) : compW g gt fe vs ds [] s K :=
  comp_inv' I ds 0 [] s (fun i d acc s e hi P h0 h1 => step i d acc s e (by rwa [Nat.zero_add] at hi) P (by rwa [Nat.zero_add] at h0) (by rwa [Nat.zero_add] at h1)) (by rw [List.length_nil, Nat.zero_add]; exact hl) (fun acc s hs => fin acc s (by rwa [Nat.zero_add] at hs)) h
/-- .. each item by itself, nothing else changes -/
theorem comp_map {g : WG} {gt : WT} {fe : WV} {vs : List Nat} {K : List D → SS → Prop} {ds : List D} {s : SS} (F : D → Option D) (hl : ds.length ≤ sizeLine)
    (step : ∀ d ∈ ds, ∀ P : Option D → SS → Prop, P (F d) s → g d s fun s1 => gt s1 fun b s2 => if b = true then fe s2 fun y s3 => P (some y) (wipeS vs s3) else P none (wipeS vs s2))
    (fin : K (ds.filterMap F) s) : compW g gt fe vs ds [] s K := by
  refine comp_inv (fun i acc s' => s' = s ∧ acc = (ds.take i).filterMap F) ⟨rfl, rfl⟩ hl (fun i d acc s' e hi P h0 h1 => ?_) (fun acc s' h => ?_)
  · obtain ⟨rfl, rfl⟩ := hi
    have ht : ds.take (i + 1) = ds.take i ++ [d] := by rw [List.take_add_one, e]; rfl
    refine step d (List.mem_of_getElem? e) P ?_
    cases q : F d with
    | none => exact h0 s' ⟨rfl, by rw [ht, List.filterMap_append, List.filterMap_cons_none q, List.filterMap_nil, List.append_nil]⟩
    | some y => exact h1 y s' ⟨rfl, by rw [ht, List.filterMap_append, List.filterMap_cons_some q, List.filterMap_nil]⟩
  · obtain ⟨rfl, rfl⟩ := h
    rw [List.take_length]; exact fin
theorem upI_at {lo : Int} {n i : Nat} {d : D} (h : (upI lo n)[i]? = some d) : i < n ∧ d = .int (lo + i) := by
  unfold upI at h
  rw [List.getElem?_map] at h
  by_cases q : i < n
  · rw [List.getElem?_range q] at h; exact ⟨q, (Option.some.inj h).symm⟩
  · rw [List.getElem?_eq_none (by simpa using q)] at h; cases h
theorem upI_mem {lo : Int} {n : Nat} {d : D} (h : d ∈ upI lo n) : ∃ i : Nat, i < n ∧ d = .int (lo + i) := by
  obtain ⟨i, hi⟩ := List.mem_iff_getElem?.mp h
  exact ⟨i, upI_at hi⟩
/-- numbers of few bits -/
theorem bits_le {i : Int} {n : Nat} (h : i.natAbs < 2 ^ n) : Builtin.Int.intBits i ≤ n := by
  unfold Builtin.Int.intBits
  split
  · exact Nat.zero_le _
  · rename_i z
    have z' : i.natAbs ≠ 0 := by
      intro e; apply z; revert e
      first | (intro e; simpa using e) | omega
    have := (Nat.log2_lt z').mpr h
    omega
theorem mulok {i j : Int} (h : i.natAbs < 2 ^ 64 ∨ j.natAbs < 2 ^ 64) : IntMulOk i j := by
  rcases h with h | h
  · exact IntMulOk.of_left (bits_le h)
  · exact IntMulOk.of_right (bits_le h)
theorem tT_NoneType : ("NoneType" ∈ tyT) = True := eq_true (by decide)
theorem tT_bool : ("bool" ∈ tyT) = True := eq_true (by decide)
theorem tT_int : ("int" ∈ tyT) = True := eq_true (by decide)
theorem tT_str : ("str" ∈ tyT) = True := eq_true (by decide)
theorem tT_list : ("list" ∈ tyT) = True := eq_true (by decide)
theorem tT_tuple : ("tuple" ∈ tyT) = True := eq_true (by decide)
theorem tT_dict : ("dict" ∈ tyT) = True := eq_true (by decide)
theorem tN_int : ("int" ∈ tyN) = True := eq_true (by decide)
theorem tN_bool : ("bool" ∈ tyN) = True := eq_true (by decide)
theorem tN_str : ("str" ∈ tyN) = True := eq_true (by decide)
theorem tN_list : ("list" ∈ tyN) = True := eq_true (by decide)
theorem tN_tuple : ("tuple" ∈ tyN) = True := eq_true (by decide)
theorem tN_dict : ("dict" ∈ tyN) = True := eq_true (by decide)
theorem iT_NoneType_int : isT "NoneType" "int" = false := by decide +kernel
theorem iT_NoneType_bool : isT "NoneType" "bool" = false := by decide +kernel
theorem iT_NoneType_str : isT "NoneType" "str" = false := by decide +kernel
theorem iT_NoneType_list : isT "NoneType" "list" = false := by decide +kernel
theorem iT_NoneType_tuple : isT "NoneType" "tuple" = false := by decide +kernel
theorem iT_NoneType_dict : isT "NoneType" "dict" = false := by decide +kernel
theorem iT_bool_int : isT "bool" "int" = true := by decide +kernel
theorem iT_bool_bool : isT "bool" "bool" = true := by decide +kernel
theorem iT_bool_str : isT "bool" "str" = false := by decide +kernel
theorem iT_bool_list : isT "bool" "list" = false := by decide +kernel
theorem iT_bool_tuple : isT "bool" "tuple" = false := by decide +kernel
theorem iT_bool_dict : isT "bool" "dict" = false := by decide +kernel
theorem iT_int_int : isT "int" "int" = true := by decide +kernel
theorem iT_int_bool : isT "int" "bool" = false := by decide +kernel
theorem iT_int_str : isT "int" "str" = false := by decide +kernel
theorem iT_int_list : isT "int" "list" = false := by decide +kernel
theorem iT_int_tuple : isT "int" "tuple" = false := by decide +kernel
theorem iT_int_dict : isT "int" "dict" = false := by decide +kernel
theorem iT_str_int : isT "str" "int" = false := by decide +kernel
theorem iT_str_bool : isT "str" "bool" = false := by decide +kernel
theorem iT_str_str : isT "str" "str" = true := by decide +kernel
theorem iT_str_list : isT "str" "list" = false := by decide +kernel
theorem iT_str_tuple : isT "str" "tuple" = false := by decide +kernel
theorem iT_str_dict : isT "str" "dict" = false := by decide +kernel
theorem iT_list_int : isT "list" "int" = false := by decide +kernel
theorem iT_list_bool : isT "list" "bool" = false := by decide +kernel
theorem iT_list_str : isT "list" "str" = false := by decide +kernel
theorem iT_list_list : isT "list" "list" = true := by decide +kernel
theorem iT_list_tuple : isT "list" "tuple" = false := by decide +kernel
theorem iT_list_dict : isT "list" "dict" = false := by decide +kernel
theorem iT_tuple_int : isT "tuple" "int" = false := by decide +kernel
theorem iT_tuple_bool : isT "tuple" "bool" = false := by decide +kernel
theorem iT_tuple_str : isT "tuple" "str" = false := by decide +kernel
theorem iT_tuple_list : isT "tuple" "list" = false := by decide +kernel
theorem iT_tuple_tuple : isT "tuple" "tuple" = true := by decide +kernel
theorem iT_tuple_dict : isT "tuple" "dict" = false := by decide +kernel
theorem iT_dict_int : isT "dict" "int" = false := by decide +kernel
theorem iT_dict_bool : isT "dict" "bool" = false := by decide +kernel
theorem iT_dict_str : isT "dict" "str" = false := by decide +kernel
theorem iT_dict_list : isT "dict" "list" = false := by decide +kernel
theorem iT_dict_tuple : isT "dict" "tuple" = false := by decide +kernel
theorem iT_dict_dict : isT "dict" "dict" = true := by decide +kernel
theorem small62_nat {n : Nat} (h : n < 2 ^ 62) : small62 (n : Int) := ⟨by omega, by omega⟩
theorem small62_of {i : Int} (h1 : -(2 ^ 62) ≤ i) (h2 : i < 2 ^ 62) : small62 i := ⟨h1, h2⟩
theorem szl : sizeLine = 16777216 := by decide
theorem ixN_at {n j : Nat} (hj : j < n) : ixN n (j : Int) = some j := by
  unfold ixN
  rw [if_pos (by omega), if_pos (by omega)]
  exact congrArg some (by omega)
theorem atI_at {α : Type} {xs : List α} {i : Nat} {d : α} (h : xs[i]? = some d) : L2.atI xs (i : Int) = some d := by
  have hl := (List.getElem?_eq_some_iff.mp h).1
  unfold L2.atI
  rw [ixN_at hl]
  exact h
theorem atI_neg {α : Type} {xs : List α} {i j : Nat} {d : α} (hj : j < xs.length) (e : i + j + 1 = xs.length) (h : xs[j]? = some d) : L2.atI xs (-((i : Int) + 1)) = some d := by
  unfold L2.atI L2.ixN
  rw [if_neg (by omega), if_pos (by omega)]
  have : (-((i : Int) + 1) + (xs.length : Int)).toNat = j := by omega
  show xs[(-((i : Int) + 1) + (xs.length : Int)).toNat]? = some d
  rw [this]; exact h
theorem atI_last {α : Type} {xs : List α} {d : α} : L2.atI (xs ++ [d]) (-1) = some d :=
  atI_neg (i := 0) (j := xs.length) (by simp) (by simp) (by simp)
theorem atI_last2 {α : Type} {xs : List α} {d e : α} : L2.atI (xs ++ [d] ++ [e]) (-2) = some d :=
  atI_neg (i := 1) (j := xs.length) (by simp) (by simp; omega) (by simp)
theorem cut_tail {α : Type} {xs : List α} : cutL xs (some 1) none = xs.tail := by
  have h : HT.sIx xs.length 0 (some 1) = min 1 xs.length := HT.sIx_nat _ _ 1
  unfold cutL
  rw [h, HT.sIx_none]
  cases xs with
  | nil => rfl
  | cons a r =>
    rw [List.length_cons, Nat.min_eq_left (by omega)]
    show List.take (r.length + 1 - 1) r = r
    rw [Nat.add_sub_cancel, List.take_length]
/-- a range's part -/
theorem get_range_map {α : Type} {n i : Nat} (f : Nat → α) (h : i < n) : ((List.range n).map f)[i]? = some (f i) := by
  rw [List.getElem?_map, List.getElem?_range h]; rfl
theorem atI_0 {α : Type} {a : α} {r : List α} : L2.atI (a :: r) 0 = some a := atI_at (i := 0) rfl
theorem ixN_0 {α : Type} {a : α} {r : List α} : L2.ixN (a :: r).length 0 = some 0 := ixN_at (j := 0) (by simp)
theorem atI_1 {α : Type} {a b : α} {r : List α} : L2.atI (a :: b :: r) 1 = some b := atI_at (i := 1) rfl
theorem ixN_1 {α : Type} {a b : α} {r : List α} : L2.ixN (a :: b :: r).length 1 = some 1 := ixN_at (j := 1) (by simp)
theorem atI_2 {α : Type} {a b c : α} {r : List α} : L2.atI (a :: b :: c :: r) 2 = some c := atI_at (i := 2) rfl
theorem ixN_2 {α : Type} {a b c : α} {r : List α} : L2.ixN (a :: b :: c :: r).length 2 = some 2 := ixN_at (j := 2) (by simp)
theorem atI_3 {α : Type} {a b c d : α} {r : List α} : L2.atI (a :: b :: c :: d :: r) 3 = some d := atI_at (i := 3) rfl
theorem ixN_3 {α : Type} {a b c d : α} {r : List α} : L2.ixN (a :: b :: c :: d :: r).length 3 = some 3 := ixN_at (j := 3) (by simp)
theorem cut_map {α β : Type} (f : α → β) (xs : List α) (lo hi : Option Int) : cutL (xs.map f) lo hi = (cutL xs lo hi).map f := by
  unfold cutL
  rw [List.length_map, List.map_take, List.map_drop]
theorem divok {i j : Int} (h : 0 < j) (h2 : j.natAbs < 2 ^ 64) : CDivW i j := ⟨h, Nat.lt_trans ((Nat.log2_lt (by omega)).mpr h2) (by decide)⟩
theorem cmp_int {i j : Int} : cmpOk (.int i) (.int j) = True := eq_true (.inl rfl)
theorem cmp_str {i j : Str} : cmpOk (.str i) (.str j) = True := eq_true (.inl rfl)
theorem cmp_bl {i j : Bool} : cmpOk (.bl i) (.bl j) = True := eq_true (.inl rfl)
theorem eqD_int {i j : Int} : eqD (.int i) (.int j) = decide (i = j) := by
  rw [Bool.eq_iff_iff]; simp [eqD, toPy, PyData.eqv]
theorem eqD_str {i j : Str} : eqD (.str i) (.str j) = decide (i = j) := by
  rw [Bool.eq_iff_iff]; simp [eqD, toPy, PyData.eqv]
theorem eqD_bl {i j : Bool} : eqD (.bl i) (.bl j) = decide (i = j) := by
  rw [Bool.eq_iff_iff]; simp [eqD, toPy, PyData.eqv]
/-! ### one statement at a time -/
theorem seq_i {f g : WS} {E : En} {ss : SS} (h : ∀ N : SS → Prop, (∀ s, g E s → N s) → f { E with nx := N } ss) : sSeq f g E ss := h _ fun _ => id
theorem for_i {fi : WI} {g : WG} {f : WS} {E : En} {ss : SS} (h : ∀ N : List D → SS → Prop, (∀ ds s, loopW g f ds E s → N ds s) → fi ss N) : sFor fi g f E ss := h _ fun _ _ => id
theorem set_self {α : Type} {l : List α} {n : Nat} {x : α} (h : l[n]? = some x) : l.set n x = l := by
  apply List.ext_getElem?
  intro i
  rw [List.getElem?_set]
  split
  · rename_i e; subst e
    rw [if_pos (List.getElem?_eq_some_iff.mp h).1]; exact h.symm
  · rfl
theorem set_range_map {α : Type} {n k : Nat} (f : Nat → α) (v : α) : ((List.range n).map f).set k v = (List.range n).map fun r => if r = k then v else f r := by
  apply List.ext_getElem?
  intro i
  rw [List.getElem?_set, List.getElem?_map, List.getElem?_map]
  by_cases q : i < n
  · rw [List.getElem?_range q]
    by_cases e : k = i
    · subst e
      rw [if_pos rfl, List.length_map, List.length_range, if_pos q]
      simp
    · rw [if_neg e]
      simp [Ne.symm e]
  · rw [List.getElem?_eq_none (by simpa using q)]
    split
    · rename_i e; subst e
      rw [if_neg (by simpa using q)]; rfl
    · rfl
theorem range_map_congr {α : Type} {n : Nat} {f g : Nat → α} (h : ∀ i, i < n → f i = g i) : (List.range n).map f = (List.range n).map g := List.map_congr_left fun i hi => h i (List.mem_range.mp hi)
end Vl
namespace Vl
open PySem PySem.Spec L2
open PyProof.Rows hiding St

/-! ### readings step by step: a lemma a form of the operand, so that what is not known stays as it is -/
section
variable {ss s : SS} {r : List SV} {S : List C} {i j n : Nat} {d e : D} {ds es xs ys : List D} {kvs : List (Key × D)} {c : C} {x y : Str} {a b : Int} {p q : Bool}
variable {G : Re → SS → Prop} {K : SS → Prop} {P : Re → Prop} {k : D → Prop} {kd : D → SS → Prop} {kr : Re → List C → Prop} {kc : C → D → Prop} {kl : List D → Prop} {kls : List D → SS → Prop} {ki : Int → Prop} {kb : Bool → Prop}
def fvS (i : Nat) (x : Option SV) (ss : SS) (G : Re → SS → Prop) : Prop := match x with
  | some (.val d) => G (.val d) ss
  | some (.own _) => G (.slo i) ss
  | _ => False
theorem x_fVar : fVar i ss G = fvS i ss.r[i]? ss G := rfl
theorem x_fv1 : fvS i (some (.val d)) ss G = G (.val d) ss := rfl
theorem x_fv2 : fvS i (some (.own c)) ss G = G (.slo i) ss := rfl
theorem x_tl : C.toD (.lst xs) = .lst xs := rfl
theorem x_td : C.toD (.dic kvs) = .dic kvs := rfl
def fzS (i : Nat) (x : Option SV) (ss : SS) (k : D → SS → Prop) : Prop := match x with
  | some (.own c) => k c.toD { ss with r := ss.r.set i (.val c.toD) }
  | some (.val d) => k d ss
  | _ => False
theorem x_fz1 : fz (.val d) ss kd = kd d ss := rfl
theorem x_fz2 : fz (.new c) ss kd = kd c.toD ss := rfl
theorem x_fz3 : fz (.slo i) ss kd = fzS i ss.r[i]? ss kd := rfl
theorem x_fzS1 : fzS i (some (.own c)) ss kd = kd c.toD { ss with r := ss.r.set i (.val c.toD) } := rfl
theorem x_fzS2 : fzS i (some (.val d)) ss kd = kd d ss := rfl
def vwL (x : Option C) (k : D → Prop) : Prop := match x with
  | some c => k c.toD
  | none => False
def vwS (x : Option SV) (ss : SS) (k : D → Prop) : Prop := match x with
  | some (.own c) => k c.toD
  | some (.val d) => vw (.val d) ss k
  | _ => False
theorem x_vw_non : vw (.val .non) ss k = k .non := rfl
theorem x_vw_bl : vw (.val (.bl p)) ss k = k (.bl p) := rfl
theorem x_vw_int : vw (.val (.int a)) ss k = k (.int a) := rfl
theorem x_vw_str : vw (.val (.str x)) ss k = k (.str x) := rfl
theorem x_vw_lst : vw (.val (.lst xs)) ss k = k (.lst xs) := rfl
theorem x_vw_tup : vw (.val (.tup xs)) ss k = k (.tup xs) := rfl
theorem x_vw_dic : vw (.val (.dic kvs)) ss k = k (.dic kvs) := rfl
theorem x_vw_raw {v : V} : vw (.val (.raw v)) ss k = k (.raw v) := rfl
theorem x_vw_loc : vw (.val (.loc n)) ss k = vwL ss.S[n]? k := by
  show (match ss.S[n]? with | some c => k c.toD | none => False) = _
  unfold vwL
  cases ss.S[n]? <;> rfl
theorem x_vwL : vwL (some c) k = k c.toD := rfl
theorem x_vw_new : vw (.new c) ss k = k c.toD := rfl
theorem x_vw_slo : vw (.slo i) ss k = vwS ss.r[i]? ss k := by
  show (match ss.r[i]? with | some (.own c) => k c.toD | some (.val (.loc n)) => (match ss.S[n]? with | some c => k c.toD | none => False) | some (.val d) => k d | _ => False) = _
  generalize ss.r[i]? = o
  unfold vwS
  match o with
  | none => rfl
  | some .no => rfl
  | some (.own c) => rfl
  | some (.val .non) => rfl
  | some (.val (.bl _)) => rfl
  | some (.val (.int _)) => rfl
  | some (.val (.str _)) => rfl
  | some (.val (.lst _)) => rfl
  | some (.val (.tup _)) => rfl
  | some (.val (.dic _)) => rfl
  | some (.val (.loc _)) => rfl
  | some (.val (.raw _)) => rfl
theorem x_vwS1 : vwS (some (.own c)) ss k = k c.toD := rfl
theorem x_vwS2 : vwS (some (.val d)) ss k = vw (.val d) ss k := rfl
theorem x_isI : isI (.val (.int a)) ki = ki a := rfl
theorem x_isB : isB (.val (.bl p)) kb = kb p := rfl
theorem x_add_i : kAdd (.int a) (.int b) P = P (.val (.int (a + b))) := rfl
theorem x_add_s : kAdd (.str x) (.str y) P = (x.length + y.length ≤ sizeLine ∧ P (.val (.str (x ++ y)))) := rfl
theorem x_add_l : kAdd (.lst xs) (.lst ys) P = (xs.length + ys.length ≤ sizeLine ∧ P (.new (.lst (xs ++ ys)))) := rfl
theorem x_add_t : kAdd (.tup xs) (.tup ys) P = (xs.length + ys.length ≤ sizeLine ∧ P (.val (.tup (xs ++ ys)))) := rfl
theorem x_mul_i : kMul (.int a) (.int b) P = (IntMulOk a b ∧ P (.val (.int (a * b)))) := rfl
theorem x_mul_s : kMul (.str x) (.int b) P = (MulOk x b ∧ P (.val (.str (Txt.mul x b)))) := rfl
theorem x_mul_l : kMul (.lst xs) (.int b) P = ((-(2 ^ 63) ≤ b ∧ b < 2 ^ 63 ∧ xs.length * b.toNat ≤ sizeLine) ∧ P (.new (.lst (List.replicate b.toNat xs).flatten))) := rfl
theorem x_sub : kSub (.int a) (.int b) P = P (.val (.int (a - b))) := by show (True ∧ _) = _; rw [true_and]
theorem x_mod : kMod (.int a) (.int b) P = (0 < b ∧ P (.val (.int (a % b)))) := rfl
theorem x_div : kDiv (.int a) (.int b) P = (CDivW a b ∧ P (.val (.int (a / b)))) := rfl
theorem x_pow : kPow (.int a) (.int b) P = ((0 ≤ b ∧ (Builtin.Int.intBits a : Int) * b ≤ 2 ^ 27) ∧ P (.val (.int (a ^ b.toNat)))) := rfl
theorem x_lt_i : kLt (.int a) (.int b) P = P (.val (.bl (decide (a < b)))) := rfl
theorem x_gt_i : kGt (.int a) (.int b) P = P (.val (.bl (decide (b < a)))) := rfl
theorem x_le_i : kLe (.int a) (.int b) P = P (.val (.bl (decide (a ≤ b)))) := rfl
theorem x_ge_i : kGe (.int a) (.int b) P = P (.val (.bl (decide (b ≤ a)))) := rfl
theorem x_lt_s : kLt (.str x) (.str y) P = P (.val (.bl (sLt x y))) := rfl
theorem x_gt_s : kGt (.str x) (.str y) P = P (.val (.bl (sLt y x))) := rfl
theorem x_le_s : kLe (.str x) (.str y) P = P (.val (.bl (!sLt y x))) := rfl
theorem x_ge_s : kGe (.str x) (.str y) P = P (.val (.bl (!sLt x y))) := rfl
theorem x_in_s {neg : Bool} : kIn neg (.str x) (.str y) P = P (.val (.bl (neg ^^ inS x y))) := by
  show (∃ z, D.str x = .str z ∧ P (.val (.bl (neg ^^ inS z y)))) = _
  simp
theorem x_in_ds {neg : Bool} : kIn neg (.str x) (.dic kvs) P = P (.val (.bl (neg ^^ (valD kvs (.inr x)).isSome))) := by
  show (∃ k, keyOf (.str x) = some k ∧ P (.val (.bl (neg ^^ (valD kvs k).isSome)))) = _
  simp [keyOf]
theorem x_in_di {neg : Bool} : kIn neg (.int a) (.dic kvs) P = P (.val (.bl (neg ^^ (valD kvs (.inl a)).isSome))) := by
  show (∃ k, keyOf (.int a) = some k ∧ P (.val (.bl (neg ^^ (valD kvs k).isSome)))) = _
  simp [keyOf]
theorem x_in_l {neg : Bool} : kIn neg d (.lst ys) P = (((flatD d = true ∧ ys.all flatD = true) ∨ (shp d = true ∧ shp (.lst ys) = true)) ∧ P (.val (.bl (neg ^^ inL d ys)))) := rfl
theorem x_in_t {neg : Bool} : kIn neg d (.tup ys) P = ((flatD d = true ∧ ys.all flatD = true) ∧ P (.val (.bl (neg ^^ inL d ys)))) := rfl
theorem x_ix_l : kIx (.lst xs) (.int a) P = ∃ d, L2.atI xs a = some d ∧ P (.val d) := by
  show (∃ i d, D.int a = .int i ∧ L2.atI xs i = some d ∧ P (.val d)) = _
  simp
theorem x_ix_t : kIx (.tup xs) (.int a) P = ∃ d, L2.atI xs a = some d ∧ P (.val d) := by
  show (∃ i d, D.int a = .int i ∧ L2.atI xs i = some d ∧ P (.val d)) = _
  simp
theorem x_ix_s : kIx (.str x) (.int a) P = (x.length ≤ sizeLine ∧ ∃ c, L2.atI x.cps.toList a = some c ∧ P (.val (.str ⟨#[c]⟩))) := by
  show (x.length ≤ sizeLine ∧ ∃ i c, D.int a = .int i ∧ L2.atI x.cps.toList i = some c ∧ P (.val (.str ⟨#[c]⟩))) = _
  simp
theorem x_ix_ds : kIx (.dic kvs) (.str x) P = ∃ d, valD kvs (.inr x) = some d ∧ P (.val d) := by
  show (∃ k d, keyOf (.str x) = some k ∧ valD kvs k = some d ∧ P (.val d)) = _
  simp [keyOf]
theorem x_ix_di : kIx (.dic kvs) (.int a) P = ∃ d, valD kvs (.inl a) = some d ∧ P (.val d) := by
  show (∃ k d, keyOf (.int a) = some k ∧ valD kvs k = some d ∧ P (.val d)) = _
  simp [keyOf]
theorem x_is {neg : Bool} : kIs neg d .non P = (noRaw d = true ∧ P (.val (.bl (neg ^^ isNon d)))) := by
  show (D.non = .non ∧ _) = _
  simp
variable {lo hi : Option Int}
theorem x_sl_l : kSl (.lst xs) lo hi P = P (.new (.lst (cutL xs lo hi))) := rfl
theorem x_sl_s : kSl (.str x) lo hi P = (x.length ≤ sizeLine ∧ P (.val (.str (cutS x lo hi)))) := rfl
theorem x_sl_t : kSl (.tup xs) lo hi P = P (.val (.tup (cutL xs lo hi))) := rfl
theorem x_len_l : kLen [.lst xs] P = P (.val (.int xs.length)) := rfl
theorem x_len_t : kLen [.tup xs] P = P (.val (.int xs.length)) := rfl
theorem x_len_s : kLen [.str x] P = (x.length ≤ sizeLine ∧ P (.val (.int x.length))) := rfl
theorem x_len_d : kLen [.dic kvs] P = P (.val (.int kvs.length)) := rfl
theorem x_list_l : kList [.lst xs] P = P (.new (.lst xs)) := rfl
theorem x_list_t : kList [.tup xs] P = P (.new (.lst xs)) := rfl
theorem x_sum : kSum [.lst xs] P = ∃ ns, intsD xs = some ns ∧ P (.val (.int ns.sum)) := rfl
theorem x_max : kMx [.int a, .int b] P = P (.val (.int (if b > a then b else a))) := rfl
theorem x_min : kMn [.int a, .int b] P = P (.val (.int (if b < a then b else a))) := rfl
theorem x_isi {t : String} : kIsi [d, .raw (.ty t)] P = (tyD d ∈ tyT ∧ t ∈ tyN ∧ P (.val (.bl (isT (tyD d) t)))) := rfl
theorem x_rg1 : kRg1 [.int a] kl = (small62 a ∧ kl (upI 0 a.toNat)) := rfl
theorem x_rg2 : kRg2 [.int a, .int b] kl = ((small62 a ∧ small62 b) ∧ kl (upI a (b - a).toNat)) := rfl
theorem x_rg3 {e : Int} : kRg3 [.int a, .int b, .int e] kl = ∃ n, RgC a b e n ∧ kl (stepI a e n) := rfl
theorem x_wk_l : walkD (.lst xs) kl = kl xs := rfl
theorem x_wk_t : walkD (.tup xs) kl = kl xs := rfl
theorem x_wk_s : walkD (.str x) kl = kl (signs x) := rfl
theorem x_wk_d : walkD (.dic kvs) kl = kl (kvs.map fun kv => kD kv.1) := rfl
def enS (ds : List D) (s : SS) (G : List D → SS → Prop) : Prop := match ds with
  | [.lst xs] => G (numD 0 xs) s
  | _ => False
theorem x_enum {fa : WA} : fEnum fa ss kls = fa ss fun ds s => enS ds s kls := rfl
theorem x_enS : enS [.lst xs] ss kls = kls (numD 0 xs) ss := rfl
def ziS (ds : List D) (s : SS) (G : List D → SS → Prop) : Prop := match ds with
  | [.lst xs, .lst ys] => G (zipD xs ys) s
  | _ => False
theorem x_zip {fa : WA} : fZip fa ss kls = fa ss fun ds s => ziS ds s kls := rfl
theorem x_ziS : ziS [.lst xs, .lst ys] ss kls = kls (zipD xs ys) ss := rfl
def itS (d : D) (s : SS) (G : List D → SS → Prop) : Prop := match d with
  | .dic kvs => G (kvs.map fun kv => .tup [kD kv.1, kv.2]) s
  | _ => False
theorem x_items {fe : WE} : fItems fe ss kls = fe ss fun r s => fz r s fun d s => itS d s kls := rfl
theorem x_itS : itS (.dic kvs) ss kls = kls (kvs.map fun kv => .tup [kD kv.1, kv.2]) ss := rfl
def vaS (d : D) (s : SS) (G : List D → SS → Prop) : Prop := match d with
  | .dic kvs => G (kvs.map (·.2)) s
  | _ => False
theorem x_values {fe : WE} : fValues fe ss kls = fe ss fun r s => fz r s fun d s => vaS d s kls := rfl
theorem x_vaS : vaS (.dic kvs) ss kls = kls (kvs.map (·.2)) ss := rfl
def rtS (x : Option SV) (ss : SS) (k : Re → List C → Prop) : Prop := match x with
  | some (.own c) => k (.new c) ss.S
  | some (.val d) => k (.val d) ss.S
  | _ => False
theorem x_rt1 : rtn (.val d) ss kr = kr (.val d) ss.S := rfl
theorem x_rt2 : rtn (.new c) ss kr = kr (.new c) ss.S := rfl
theorem x_rt3 : rtn (.slo i) ss kr = rtS ss.r[i]? ss kr := by
  show (match ss.r[i]? with | some (.own c) => kr (.new c) ss.S | some (.val d) => kr (.val d) ss.S | _ => False) = _
  rfl
theorem x_rtS1 : rtS (some (.own c)) ss kr = kr (.new c) ss.S := rfl
theorem x_rtS2 : rtS (some (.val d)) ss kr = kr (.val d) ss.S := rfl
theorem x_set1 : setS i (.val d) ss K = K { ss with r := ss.r.set i (.val d) } := rfl
theorem x_set2 : setS i (.new c) ss K = K { ss with r := ss.r.set i (.own c) } := rfl
theorem x_set3 : setS i (.slo j) ss K = fz (.slo j) ss fun d s => K { s with r := s.r.set i (.val d) } := rfl
theorem x_cell1 : toCell (.new c) ss kd = kd (.loc ss.S.length) { ss with S := ss.S ++ [c] } := rfl
theorem x_cell2 : toCell (.val d) ss kd = kd d ss := rfl
theorem x_cell3 : toCell (.slo i) ss kd = fz (.slo i) ss kd := rfl
variable {f : C → (C → D → Prop) → Prop}
def onL (n : Nat) (x : Option C) (s : SS) (f : C → (C → D → Prop) → Prop) (k : D → SS → Prop) : Prop := match x with
  | some c => f c fun c' d => k d { s with S := s.S.set n c' }
  | none => False
def onS (j : Nat) (x : Option SV) (s : SS) (f : C → (C → D → Prop) → Prop) (k : D → SS → Prop) : Prop := match x with
  | some (.own c) => f c fun c' d => k d { s with r := s.r.set j (.own c') }
  | some (.val (.loc n)) => onL n s.S[n]? s f k
  | _ => False
theorem x_on1 : onC (.slo j) ss f kd = onS j ss.r[j]? ss f kd := by
  unfold onC onS onL
  rfl
theorem x_on2 : onC (.val (.loc n)) ss f kd = onL n ss.S[n]? ss f kd := rfl
theorem x_onS1 : onS j (some (.own c)) ss f kd = f c fun c' d => kd d { ss with r := ss.r.set j (.own c') } := rfl
theorem x_onS2 : onS j (some (.val (.loc n))) ss f kd = onL n ss.S[n]? ss f kd := rfl
theorem x_onL : onL n (some c) ss f kd = f c fun c' d => kd d { ss with S := ss.S.set n c' } := rfl
theorem x_put_l : putC (.lst xs) (.int a) d kc = ∃ j, L2.ixN xs.length a = some j ∧ kc (.lst (xs.set j d)) .non := by
  show (∃ i j, D.int a = .int i ∧ L2.ixN xs.length i = some j ∧ kc (.lst (xs.set j d)) .non) = _
  simp
theorem x_put_ds : putC (.dic kvs) (.str x) d kc = (kvs.length < sizeLine ∧ kc (.dic (putD kvs (.inr x) d)) .non) := by
  show (∃ key, keyOf (.str x) = some key ∧ kvs.length < sizeLine ∧ kc (.dic (putD kvs key d)) .non) = _
  simp [keyOf]
theorem x_put_di : putC (.dic kvs) (.int a) d kc = (kvs.length < sizeLine ∧ kc (.dic (putD kvs (.inl a) d)) .non) := by
  show (∃ key, keyOf (.int a) = some key ∧ kvs.length < sizeLine ∧ kc (.dic (putD kvs key d)) .non) = _
  simp [keyOf]
theorem x_app : appC (.lst xs) d kc = (xs.length < sizeLine ∧ kc (.lst (xs ++ [d])) .non) := rfl
def mLst : D → Prop
  | .lst _ => True
  | _ => False
theorem x_isL {ro : Re} : isLst ro ss = vw ro ss mLst := by
  unfold isLst
  congr 1
theorem x_mLst : mLst (.lst xs) = True := rfl
variable {g : WG} {gs : WGs}
theorem x_tp : gTp n gs (.tup ds) ss K = (ds.length = n ∧ gs ds ss K) := rfl
theorem x_gs0 : gsNil [] ss K = K ss := by show (([] : List D) = [] ∧ _) = _; simp
theorem x_gs1 : gsCons g gs (d :: ds) ss K = g d ss fun s => gs ds s K := rfl
def p2S (i j : Nat) (ds : List D) (s : SS) (E : SS → Prop) : Prop := match ds with
  | [d, e] => E { s with r := (s.r.set i (.val d)).set j (.val e) }
  | _ => False
def p3S (i j l : Nat) (ds : List D) (s : SS) (E : SS → Prop) : Prop := match ds with
  | [d, e, g] => E { s with r := ((s.r.set i (.val d)).set j (.val e)).set l (.val g) }
  | _ => False
theorem x_par2 {fs : WA} {E : En} : sPar2 i j fs E ss = fs ss fun ds s => p2S i j ds s E.nx := rfl
theorem x_par3 {fs : WA} {E : En} {l : Nat} : sPar3 i j l fs E ss = fs ss fun ds s => p3S i j l ds s E.nx := rfl
theorem x_p2S {d e : D} : p2S i j [d, e] ss K = K { ss with r := (ss.r.set i (.val d)).set j (.val e) } := rfl
theorem x_p3S {d e g : D} {l : Nat} : p3S i j l [d, e, g] ss K = K { ss with r := ((ss.r.set i (.val d)).set j (.val e)).set l (.val g) } := rfl
theorem x_keep1 : keepV (some (.val d)) = .val d := rfl
theorem x_keep2 : keepV (some (.own c)) = .no := rfl
theorem x_keep3 : keepV (some .no) = .no := rfl
theorem x_wR0 : wipeR r [] = r := rfl
theorem x_wR1 {v : Nat} {vs : List Nat} : wipeR r (v :: vs) = (wipeR r vs).set v .no := rfl
theorem x_uR0 {r' : List SV} : unwR r r' [] = r' := rfl
theorem x_uR1 {r' : List SV} {v : Nat} {vs : List Nat} : unwR r r' (v :: vs) = (unwR r r' vs).set v (keepV r[v]?) := rfl
theorem x_vws0 {k : List D → Prop} : vws [] ss k = k [] := rfl
theorem x_vws1 {k : List D → Prop} {ro : Re} {rs : List Re} : vws (ro :: rs) ss k = vw ro ss fun d => vws rs ss fun ds => k (d :: ds) := rfl
end
end Vl
namespace Kx
open PySem PySem.Spec L2 Vl
open PyProof.Rows hiding St
def top (i : Nat) : Stmt := PySem.Challenge.pw_relabelsteps_k63_tables_by_name.main.body.getD i (.Pass ⟨0, 0, 0, 0⟩)
abbrev st_is_whole : Stmt := top 4
abbrev N_is_whole : List Str := ["value"]
theorem sc_is_whole : FnScope N_is_whole ["value"] (defScope st_is_whole) := ⟨rfl, rfl, rfl, by decide +kernel, rfl, by decide +kernel, by decide +kernel⟩
abbrev st_is_count : Stmt := top 5
abbrev N_is_count : List Str := ["value"]
theorem sc_is_count : FnScope N_is_count ["value"] (defScope st_is_count) := ⟨rfl, rfl, rfl, by decide +kernel, rfl, by decide +kernel, by decide +kernel⟩
abbrev st_check_count : Stmt := top 6
abbrev N_check_count : List Str := ["number"]
theorem sc_check_count : FnScope N_check_count ["number"] (defScope st_check_count) := ⟨rfl, rfl, rfl, by decide +kernel, rfl, by decide +kernel, by decide +kernel⟩
abbrev st_choices : Stmt := top 8
abbrev N_choices : List Str := ["most", "rows", "turn", "one", "other"]
theorem sc_choices : FnScope N_choices ["most"] (defScope st_choices) := ⟨rfl, rfl, rfl, by decide +kernel, rfl, by decide +kernel, by decide +kernel⟩
abbrev st_rings_by_number : Stmt := top 9
abbrev N_rings_by_number : List Str := ["most", "rows", "many", "row", "rings"]
theorem sc_rings_by_number : FnScope N_rings_by_number ["most"] (defScope st_rings_by_number) := ⟨rfl, rfl, rfl, by decide +kernel, rfl, by decide +kernel, by decide +kernel⟩
abbrev st_power : Stmt := top 10
abbrev N_power : List Str := ["base", "exponent", "found", "turn"]
theorem sc_power : FnScope N_power ["base", "exponent"] (defScope st_power) := ⟨rfl, rfl, rfl, by decide +kernel, rfl, by decide +kernel, by decide +kernel⟩
abbrev st_calm_by_stays : Stmt := top 11
abbrev N_calm_by_stays : List Str := ["most", "sets", "ringed_ways", "found", "many", "row", "stays", "number", "ringed"]
theorem sc_calm_by_stays : FnScope N_calm_by_stays ["most", "sets", "ringed_ways"] (defScope st_calm_by_stays) := ⟨rfl, rfl, rfl, by decide +kernel, rfl, by decide +kernel, by decide +kernel⟩
abbrev st_how_many : Stmt := top 12
abbrev N_how_many : List Str := ["labels", "steps", "ringed", "sets", "rows", "calm", "total", "stays", "rings", "row"]
theorem sc_how_many : FnScope N_how_many ["labels", "steps"] (defScope st_how_many) := ⟨rfl, rfl, rfl, by decide +kernel, rfl, by decide +kernel, by decide +kernel⟩
abbrev st_most_steps : Stmt := top 13
abbrev N_most_steps : List Str := ["labels"]
theorem sc_most_steps : FnScope N_most_steps ["labels"] (defScope st_most_steps) := ⟨rfl, rfl, rfl, by decide +kernel, rfl, by decide +kernel, by decide +kernel⟩
abbrev st__law_purse : Stmt := top 15
abbrev N__law_purse : List Str := ["_law_script", "_law_at", "_law_seed"]
theorem sc__law_purse : FnScope N__law_purse ["_law_script", "_law_at"] (defScope st__law_purse) := ⟨rfl, rfl, rfl, by decide +kernel, rfl, by decide +kernel, by decide +kernel⟩
abbrev st__law_mixed : Stmt := top 16
abbrev N__law_mixed : List Str := ["_law_seed", "_law_turn", "_law_at", "_law_mixed_here"]
theorem sc__law_mixed : FnScope N__law_mixed ["_law_seed", "_law_turn", "_law_at"] (defScope st__law_mixed) := ⟨rfl, rfl, rfl, by decide +kernel, rfl, by decide +kernel, by decide +kernel⟩
abbrev st__law_draw : Stmt := top 17
abbrev N__law_draw : List Str := ["_law_purse_here", "_law_many", "_law_found", "_law_piece", "_law_drawn"]
theorem sc__law_draw : FnScope N__law_draw ["_law_purse_here", "_law_many"] (defScope st__law_draw) := ⟨rfl, rfl, rfl, by decide +kernel, rfl, by decide +kernel, by decide +kernel⟩
abbrev st__law_purses : Stmt := top 18
abbrev N__law_purses : List Str := ["_law_script", "_law_few", "_law_at"]
theorem sc__law_purses : FnScope N__law_purses ["_law_script", "_law_few"] (defScope st__law_purses) := ⟨rfl, rfl, rfl, by decide +kernel, rfl, by decide +kernel, by decide +kernel⟩
abbrev st_law : Stmt := top 19
abbrev N_law : List Str := ["_law_script", "_law_purse_here", "_law_first", "_law_second"]
theorem sc_law : FnScope N_law ["_law_script"] (defScope st_law) := ⟨rfl, rfl, rfl, by decide +kernel, rfl, by decide +kernel, by decide +kernel⟩
def g_how_many_0 {α : Type} : List α → List α → List α := fun us ws => match us, ws with | [], [b0, b1] => [b1, b0] | _, _ => []
theorem kb_how_many_0 : KwB "how_many" st_how_many ["labels", "steps"] ["steps", "labels"] 0 g_how_many_0 := fun _ _ _ _ _ _ us ws h1 h2 => match us, ws, h1, h2 with | [], [_, _], _, _ => rfl
theorem gr_how_many_0 {vs : List V} {us : List Value} {zs : List V} {ws : List Value} (h1 : Vals vs us) (h2 : Vals zs ws) : Vals (g_how_many_0 vs zs) (g_how_many_0 us ws) := by
  rcases h1 with _ | ⟨x0, _ | ⟨x1, _ | ⟨x2, _ | ⟨x3, _⟩⟩⟩⟩ <;> rcases h2 with _ | ⟨y0, _ | ⟨y1, _ | ⟨y2, _ | ⟨y3, _⟩⟩⟩⟩ <;> first | exact .nil | exact .cons y1 (.cons y0 (.nil))
theorem gw_how_many_0 {w : Wd} {ds : List D} {vs : List V} {es : List D} {us : List V} (h1 : RepL w ds vs) (h2 : RepL w es us) : RepL w (g_how_many_0 ds es) (g_how_many_0 vs us) := by
  obtain h1 := repL_rel h1
  obtain h2 := repL_rel h2
  apply rel_repL
  rcases h1 with _ | ⟨x0, _ | ⟨x1, _ | ⟨x2, _ | ⟨x3, _⟩⟩⟩⟩ <;> rcases h2 with _ | ⟨y0, _ | ⟨y1, _ | ⟨y2, _ | ⟨y3, _⟩⟩⟩⟩ <;> first | exact .nil | exact .cons y1 (.cons y0 (.nil))
def g_most_steps_1 {α : Type} : List α → List α → List α := fun us ws => match us, ws with | [], [b0] => [b0] | _, _ => []
theorem kb_most_steps_1 : KwB "most_steps" st_most_steps ["labels"] ["labels"] 0 g_most_steps_1 := fun _ _ _ _ _ _ us ws h1 h2 => match us, ws, h1, h2 with | [], [_], _, _ => rfl
theorem gr_most_steps_1 {vs : List V} {us : List Value} {zs : List V} {ws : List Value} (h1 : Vals vs us) (h2 : Vals zs ws) : Vals (g_most_steps_1 vs zs) (g_most_steps_1 us ws) := by
  rcases h1 with _ | ⟨x0, _ | ⟨x1, _ | ⟨x2, _ | ⟨x3, _⟩⟩⟩⟩ <;> rcases h2 with _ | ⟨y0, _ | ⟨y1, _ | ⟨y2, _ | ⟨y3, _⟩⟩⟩⟩ <;> first | exact .nil | exact .cons y0 (.nil)
theorem gw_most_steps_1 {w : Wd} {ds : List D} {vs : List V} {es : List D} {us : List V} (h1 : RepL w ds vs) (h2 : RepL w es us) : RepL w (g_most_steps_1 ds es) (g_most_steps_1 vs us) := by
  obtain h1 := repL_rel h1
  obtain h2 := repL_rel h2
  apply rel_repL
  rcases h1 with _ | ⟨x0, _ | ⟨x1, _ | ⟨x2, _ | ⟨x3, _⟩⟩⟩⟩ <;> rcases h2 with _ | ⟨y0, _ | ⟨y1, _ | ⟨y2, _ | ⟨y3, _⟩⟩⟩⟩ <;> first | exact .nil | exact .cons y0 (.nil)
structure Txt (mg : Str → Option Value) : Prop where
  isinstance : mg "isinstance" = none
  int_ : mg "int" = none
  bool_ : mg "bool" = none
  range : mg "range" = none
  zip : mg "zip" = none
  sum : mg "sum" = none
  max : mg "max" = none
  min : mg "min" = none
  len : mg "len" = none
/-! ### what each def promises -/
def dI (l : List Int) : D := .lst (l.map D.int)
def c_is_whole : Ct := fun ds S G => ∃ i, ds = [.int i] ∧ G (.val (.bl true)) S
def c_is_count : Ct := fun ds S G => ∃ i, ds = [.int i] ∧ G (.val (.bl (decide (0 ≤ i)))) S
def c_check_count : Ct := fun ds S G => ∃ i, ds = [.int i] ∧ 0 ≤ i ∧ G (.val .non) S
def pasc : Nat → List Int
  | 0 => [1]
  | n + 1 => [1] ++ List.zipWith (· + ·) (pasc n) (pasc n).tail ++ [1]
def chL (n : Nat) : List D := (List.range (n + 1)).map fun i => dI (pasc i)
def c_choices : Ct := fun ds S G => ∃ n : Nat, ds = [.int n] ∧ n ≤ 60 ∧ G (.new (.lst (chL n))) S
def rgF : Nat → Nat → Int
  | 0, r => if r = 0 then 1 else 0
  | 1, _ => 0
  | m + 2, r => (m + 1 : Int) * rgF (m + 1) r + if 0 < r then (m + 1 : Int) * rgF m (r - 1) else 0
def rgR (most m : Nat) : List Int := (List.range (most + 1)).map (rgF m)
def rgL (most n : Nat) : List D := (List.range n).map fun i => dI (rgR most i)
/-- two rows at least -/
def c_rings_by_number : Ct := fun ds S G => ∃ n : Nat, ds = [.int n] ∧ n ≤ 60 ∧ G (.new (.lst (rgL n (max 2 (n + 1))))) S
def c_power : Ct := fun ds S G => ∃ (b : Int) (e : Nat), ds = [.int b, .int e] ∧ b.natAbs < 2 ^ 64 ∧ e ≤ 1000 ∧ G (.val (.int (b ^ e))) S
def waysL (most : Nat) : List Int := (List.range (max 2 (most + 1))).map fun i => (rgR most i).sum
/-- calm: the row many, by the rows before -/
def caN (most many stays : Nat) (found : List (List Int)) : Nat → Int
  | 0 => (pasc many).getD stays 0 * ((many : Int) - 1) ^ (many - stays)
  | k + 1 => caN most many stays found k - (pasc many).getD (k + 2) 0 * (waysL most).getD (k + 2) 0 * (found.getD (many - (k + 2)) []).getD stays 0
def caR (most many : Nat) (found : List (List Int)) : List Int := (List.range (many + 1)).map fun stays => caN most many stays found (many - stays - 1)
def caL (most : Nat) : Nat → List (List Int)
  | 0 => []
  | k + 1 => caL most k ++ [caR most k (caL most k)]
def c_calm_by_stays : Ct := fun ds S G => ∃ n : Nat, ds = [.int n, .lst (chL n), dI (waysL n)] ∧ n ≤ 10 ∧ G (.new (.lst ((caL n (n + 1)).map dI))) S
def hmT (n : Nat) (st : Int) (ringed stays : Nat) : Int :=
  let rings := st - n + stays
  if 0 ≤ rings ∧ rings ≤ n then (pasc n).getD ringed 0 * (rgR n ringed).getD rings.toNat 0 * ((caL n (n + 1)).getD (n - ringed) []).getD stays 0 else 0
def hmV (n : Nat) (st : Int) : Int := ((List.range (n + 1)).map fun ringed => ((List.range (n - ringed + 1)).map (hmT n st ringed)).sum).sum
def c_how_many : Ct := fun ds S G => ∃ n st : Nat, ds = [.int n, .int st] ∧ n ≤ 10 ∧ G (.val (.int (hmV n st))) S
def c_most_steps : Ct := fun ds S G => ∃ n : Nat, ds = [.int n] ∧ n ≤ 10 ∧ ∀ r, (r = if n ≠ 1 then (n : Int) + n / 2 else 0) → G (.val (.int r)) S
/-- a purse of the script's draws -/
structure Purse (c : C) (k : Nat) : Prop where
  ex : ∃ (a b z i : Int), c = .lst [.int a, .int b, .int z, .int i] ∧ 0 ≤ a ∧ a < 10 ^ 480 ∧ 0 ≤ b ∧ b < 2 ^ 31 ∧ 0 ≤ z ∧ z ≤ k ∧ 0 ≤ i ∧ i ≤ 63
def c__law_purse : Ct := fun ds S G => ∃ (ns : List Int) (i : Nat), ds = [.lst (ns.map D.int), .int i] ∧ ns.length ≤ 63 ∧ i ≤ 63 ∧ ∀ c, Purse c 0 → G (.new c) S
def c__law_mixed : Ct := fun ds S G => ∃ (a z i : Int), ds = [.int a, .int z, .int i] ∧ 0 ≤ a ∧ a < 2 ^ 31 ∧ 0 ≤ z ∧ z ≤ 2 ^ 20 ∧ 0 ≤ i ∧ i ≤ 63 ∧ ∀ r, 0 ≤ r → r < 2 ^ 31 → G (.val (.int r)) S
def c__law_draw : Ct := fun ds S G => ∃ (n : Nat) (m : Int) (c : C) (k : Nat), ds = [.loc n, .int m] ∧ S[n]? = some c ∧ Purse c k ∧ k ≤ 10000 ∧ 0 < m ∧ m < 2 ^ 64 ∧ ∀ (r : Int) (c' : C), 0 ≤ r → r < m → Purse c' (k + 3) → G (.val (.int r)) (S.set n c')
def c__law_purses : Ct := fun ds S G => ∃ (ns : List Int) (few : Nat), ds = [.lst (ns.map D.int), .int few] ∧ ns.length ≤ 63 ∧ few ≤ 63 ∧ S = [] ∧ ∀ cs : List C, (∀ c ∈ cs, Purse c 0) → cs.length ≤ 63 → G (.new (.lst ((List.range cs.length).map D.loc))) cs
def c_law : Ct := fun ds S G => ∃ ns : List Int, ds = [.lst (ns.map D.int)] ∧ ns.length ≤ 63 ∧ S = [] ∧ ∀ S', G (.val (.bl true)) S'
theorem of_script {ns : List Int} (hl : ns.length ≤ 63) (hb : ∀ z ∈ ns, Builtin.Int.intBits z ≤ 1048576) : c_law [.lst (ns.map D.int)] [] (fun r _ => r = .val (.bl true)) := ⟨ns, rfl, hl, rfl, fun _ => rfl⟩
theorem len_is_whole : ∀ ds S G, c_is_whole ds S G → ds.length = 1 := by rintro _ _ _ ⟨_, rfl, _⟩; rfl
theorem len_is_count : ∀ ds S G, c_is_count ds S G → ds.length = 1 := by rintro _ _ _ ⟨_, rfl, _⟩; rfl
theorem len_check_count : ∀ ds S G, c_check_count ds S G → ds.length = 1 := by rintro _ _ _ ⟨_, rfl, _⟩; rfl
theorem len_choices : ∀ ds S G, c_choices ds S G → ds.length = 1 := by rintro _ _ _ ⟨_, rfl, _⟩; rfl
theorem len_rings_by_number : ∀ ds S G, c_rings_by_number ds S G → ds.length = 1 := by rintro _ _ _ ⟨_, rfl, _⟩; rfl
theorem len_power : ∀ ds S G, c_power ds S G → ds.length = 2 := by rintro _ _ _ ⟨_, _, rfl, _⟩; rfl
theorem len_calm_by_stays : ∀ ds S G, c_calm_by_stays ds S G → ds.length = 3 := by rintro _ _ _ ⟨_, rfl, _⟩; rfl
theorem len_how_many : ∀ ds S G, c_how_many ds S G → ds.length = 2 := by rintro _ _ _ ⟨_, _, rfl, _⟩; rfl
theorem len_most_steps : ∀ ds S G, c_most_steps ds S G → ds.length = 1 := by rintro _ _ _ ⟨_, rfl, _⟩; rfl
theorem len__law_purse : ∀ ds S G, c__law_purse ds S G → ds.length = 2 := by rintro _ _ _ ⟨_, _, rfl, _⟩; rfl
theorem len__law_mixed : ∀ ds S G, c__law_mixed ds S G → ds.length = 3 := by rintro _ _ _ ⟨_, _, _, rfl, _⟩; rfl
theorem len__law_draw : ∀ ds S G, c__law_draw ds S G → ds.length = 2 := by rintro _ _ _ ⟨_, _, _, _, rfl, _⟩; rfl
theorem len__law_purses : ∀ ds S G, c__law_purses ds S G → ds.length = 2 := by rintro _ _ _ ⟨_, _, rfl, _⟩; rfl
theorem len_law : ∀ ds S G, c_law ds S G → ds.length = 1 := by rintro _ _ _ ⟨_, rfl, _⟩; rfl
def fb_is_whole : WS := (sRet (fAnd (fBlt kIsi (rCons (fVar 0) (rCons (fCon (.raw (.ty "int"))) rNil))) (fNot (fBlt kIsi (rCons (fVar 0) (rCons (fCon (.raw (.ty "bool"))) rNil))))))
def fb_is_count : WS := (sRet (fAnd (fCall c_is_whole [] (fCons (fV (fVar 0)) fNil)) (fOp kGe (fVar 0) (fCon (.int 0)))))
def fb_check_count : WS := (sIf (gNot (fT (fCall c_is_count [] (fCons (fV (fVar 0)) fNil)))) sNever sNil)
def fb_choices : WS := (sSeq (sSet 1 (fLst (fCons (fV (fLst (fCons (fV (fCon (.int 1))) fNil))) fNil))) (sSeq (sFor (fRg kRg1 (rCons (fVar 0) rNil)) (gNm 2) (sDrop (fM1 appC (fVar 1) (fV (fOp kAdd (fOp kAdd (fLst (fCons (fV (fCon (.int 1))) fNil)) (fLc (fZip (fCons (fV (fOp kIx (fVar 1) (fNeg (fCon (.int 1))))) (fCons (fV (fSl (fOp kIx (fVar 1) (fNeg (fCon (.int 1)))) (fO (fCon (.int 1))) fNoO)) fNil))) (gTp 2 (gsCons (gNm 3) (gsCons (gNm 4) gsNil))) gYes (fV (fOp kAdd (fVar 3) (fVar 4))) [3, 4])) (fLst (fCons (fV (fCon (.int 1))) fNil))))))) (sRet (fVar 1))))
def fb_rings_by_number : WS := (sSeq (sSet 1 (fLst (fCons (fV (fOp kAdd (fLst (fCons (fV (fCon (.int 1))) fNil)) (fOp kMul (fLst (fCons (fV (fCon (.int 0))) fNil)) (fVar 0)))) (fCons (fV (fOp kMul (fLst (fCons (fV (fCon (.int 0))) fNil)) (fOp kAdd (fVar 0) (fCon (.int 1))))) fNil)))) (sSeq (sFor (fRg kRg2 (rCons (fCon (.int 2)) (rCons (fOp kAdd (fVar 0) (fCon (.int 1))) rNil))) (gNm 2) (sSeq (sSet 3 (fOp kMul (fLst (fCons (fV (fCon (.int 0))) fNil)) (fOp kAdd (fVar 0) (fCon (.int 1))))) (sSeq (sFor (fRg kRg1 (rCons (fOp kAdd (fVar 0) (fCon (.int 1))) rNil)) (gNm 4) (sSeq (sAsg (fOp kMul (fOp kSub (fVar 2) (fCon (.int 1))) (fOp kIx (fOp kIx (fVar 1) (fNeg (fCon (.int 1)))) (fVar 4))) (gPut (fVar 3) (fVar 4))) (sIf (fT (fOp kGt (fVar 4) (fCon (.int 0)))) (sAsg (fOp kAdd (fOp kIx (fVar 3) (fVar 4)) (fOp kMul (fOp kSub (fVar 2) (fCon (.int 1))) (fOp kIx (fOp kIx (fVar 1) (fNeg (fCon (.int 2)))) (fOp kSub (fVar 4) (fCon (.int 1)))))) (gPut (fVar 3) (fVar 4))) sNil))) (sDrop (fM1 appC (fVar 1) (fV (fVar 3))))))) (sRet (fVar 1))))
def fb_power : WS := (sSeq (sSet 2 (fCon (.int 1))) (sSeq (sFor (fRg kRg1 (rCons (fVar 1) rNil)) (gNm 3) (sSet 2 (fOp kMul (fVar 2) (fVar 0)))) (sRet (fVar 2))))
def fb_calm_by_stays : WS := (sSeq (sSet 3 (fLst fNil)) (sSeq (sFor (fRg kRg1 (rCons (fOp kAdd (fVar 0) (fCon (.int 1))) rNil)) (gNm 4) (sSeq (sSet 5 (fLst fNil)) (sSeq (sFor (fRg kRg1 (rCons (fOp kAdd (fVar 4) (fCon (.int 1))) rNil)) (gNm 6) (sSeq (sSet 7 (fOp kMul (fOp kIx (fOp kIx (fVar 1) (fVar 4)) (fVar 6)) (fCall c_power [] (fCons (fV (fOp kSub (fVar 4) (fCon (.int 1)))) (fCons (fV (fOp kSub (fVar 4) (fVar 6))) fNil))))) (sSeq (sFor (fRg kRg2 (rCons (fCon (.int 2)) (rCons (fOp kAdd (fOp kSub (fVar 4) (fVar 6)) (fCon (.int 1))) rNil))) (gNm 8) (sSet 7 (fOp kSub (fVar 7) (fOp kMul (fOp kMul (fOp kIx (fOp kIx (fVar 1) (fVar 4)) (fVar 8)) (fOp kIx (fVar 2) (fVar 8))) (fOp kIx (fOp kIx (fVar 3) (fOp kSub (fVar 4) (fVar 8))) (fVar 6)))))) (sDrop (fM1 appC (fVar 5) (fV (fVar 7))))))) (sDrop (fM1 appC (fVar 3) (fV (fVar 5))))))) (sRet (fVar 3))))
def fb_how_many : WS := (sSeq (sDrop (fCall c_check_count [] (fCons (fV (fVar 0)) fNil))) (sSeq (sDrop (fCall c_check_count [] (fCons (fV (fVar 1)) fNil))) (sSeq (sPar2 3 4 (fCons (fV (fCall c_choices [] (fCons (fV (fVar 0)) fNil))) (fCons (fV (fCall c_rings_by_number [] (fCons (fV (fVar 0)) fNil))) fNil))) (sSeq (sPar2 5 6 (fCons (fV (fCall c_calm_by_stays [] (fCons (fV (fVar 0)) (fCons (fV (fVar 3)) (fCons (fV (fLc (fAny (fVar 4)) (gNm 9) gYes (fV (fBlt kSum (rCons (fVar 9) rNil))) [9])) fNil))))) (fCons (fV (fCon (.int 0))) fNil))) (sSeq (sFor (fRg kRg1 (rCons (fOp kAdd (fVar 0) (fCon (.int 1))) rNil)) (gNm 2) (sFor (fRg kRg1 (rCons (fOp kAdd (fOp kSub (fVar 0) (fVar 2)) (fCon (.int 1))) rNil)) (gNm 7) (sSeq (sSet 8 (fOp kAdd (fOp kSub (fVar 1) (fVar 0)) (fVar 7))) (sIf (fT (fCh (fun i j => decide (i ≤ j)) (fun i j => decide (i ≤ j)) (fCon (.int 0)) (fVar 8) (fVar 0))) (sSet 6 (fOp kAdd (fVar 6) (fOp kMul (fOp kMul (fOp kIx (fOp kIx (fVar 3) (fVar 0)) (fVar 2)) (fOp kIx (fOp kIx (fVar 4) (fVar 2)) (fVar 8))) (fOp kIx (fOp kIx (fVar 5) (fOp kSub (fVar 0) (fVar 2))) (fVar 7))))) sNil)))) (sRet (fVar 6)))))))
def fb_most_steps : WS := (sSeq (sDrop (fCall c_check_count [] (fCons (fV (fVar 0)) fNil))) (sRet (fIf (fT (fOp kNe (fVar 0) (fCon (.int 1)))) (fOp kAdd (fVar 0) (fOp kDiv (fVar 0) (fCon (.int 2)))) (fCon (.int 0)))))
def fb__law_purse : WS := (sSeq (sSet 2 (fBlt kSum (rCons (fSl (fVar 0) (fO (fVar 1)) (fO (fOp kAdd (fVar 1) (fCon (.int 1))))) rNil))) (sRet (fLst (fCons (fV (fOp kMod (fBlt kMx (rCons (fOp kSub (fVar 2) (fOp kPow (fCon (.int 10)) (fCon (.int 18)))) (rCons (fCon (.int 0)) rNil))) (fOp kPow (fOp kPow (fCon (.int 10)) (fCon (.int 60))) (fCon (.int 8))))) (fCons (fV (fOp kMod (fVar 2) (fCon (.int 2147483629)))) (fCons (fV (fCon (.int 0))) (fCons (fV (fVar 1)) fNil)))))))
def fb__law_mixed : WS := (sSeq (sSet 3 (fOp kAdd (fOp kMul (fVar 0) (fCon (.int 69069))) (fOp kMul (fOp kMul (fCon (.int 104729)) (fVar 1)) (fVar 1)))) (sSeq (sSet 3 (fOp kMod (fOp kAdd (fOp kAdd (fVar 3) (fOp kMul (fCon (.int 7919)) (fVar 2))) (fVar 1)) (fCon (.int 2147483647)))) (sSeq (sSet 3 (fOp kMod (fOp kAdd (fOp kMul (fVar 3) (fVar 3)) (fCon (.int 40503))) (fCon (.int 2147483629)))) (sRet (fOp kMod (fOp kMul (fVar 3) (fCon (.int 48271))) (fCon (.int 2147483587)))))))
def fb__law_draw : WS := (sSeq (sIf (fT (fOp kGt (fOp kIx (fVar 0) (fCon (.int 0))) (fCon (.int 0)))) (sSeq (sSet 4 (fOp kMod (fOp kIx (fVar 0) (fCon (.int 0))) (fVar 1))) (sSeq (sAsg (fOp kDiv (fOp kIx (fVar 0) (fCon (.int 0))) (fVar 1)) (gPut (fVar 0) (fCon (.int 0)))) (sRet (fVar 4)))) sNil) (sSeq (sSet 2 (fCon (.int 0))) (sSeq (sFor (fRg kRg1 (rCons (fOp kAdd (fCon (.int 1)) (fOp kDiv (fBits (fVar 1)) (fCon (.int 28)))) rNil)) (gNm 3) (sSeq (sAsg (fOp kAdd (fOp kIx (fVar 0) (fCon (.int 2))) (fCon (.int 1))) (gPut (fVar 0) (fCon (.int 2)))) (sSet 2 (fOp kAdd (fOp kMul (fVar 2) (fCon (.int 2147483587))) (fCall c__law_mixed [] (fCons (fV (fOp kIx (fVar 0) (fCon (.int 1)))) (fCons (fV (fOp kIx (fVar 0) (fCon (.int 2)))) (fCons (fV (fOp kIx (fVar 0) (fCon (.int 3)))) fNil)))))))) (sRet (fOp kMod (fVar 2) (fVar 1))))))
def fb__law_purses : WS := (sRet (fLc (fRg kRg1 (rCons (fBlt kMx (rCons (fCon (.int 1)) (rCons (fBlt kMn (rCons (fVar 1) (rCons (fBlt kLen (rCons (fVar 0) rNil)) rNil))) rNil))) rNil)) (gNm 2) gYes (fCell (fCall c__law_purse [] (fCons (fV (fVar 0)) (fCons (fV (fVar 2)) fNil)))) [2]))
def fb_law : WS := (sSeq (sFor (fAny (fCall c__law_purses [] (fCons (fV (fVar 0)) (fCons (fV (fCon (.int 12))) fNil)))) (gNm 1) (sSeq (sPar2 2 3 (fCons (fV (fOp kAdd (fCon (.int 2)) (fCall c__law_draw [] (fCons (fV (fVar 1)) (fCons (fV (fCon (.int 9))) fNil))))) (fCons (fV (fCall c__law_draw [] (fCons (fV (fVar 1)) (fCons (fV (fCon (.int 12))) fNil)))) fNil))) (sSeq (sIf (fT (fOp kNe (fCallK c_how_many 0 2 g_how_many_0 fNil (fCons (fV (fVar 3)) (fCons (fV (fVar 2)) fNil))) (fCall c_how_many [] (fCons (fV (fVar 2)) (fCons (fV (fVar 3)) fNil))))) (sRet (fCon (.bl false))) sNil) (sIf (fT (fOp kNe (fCallK c_most_steps 0 1 g_most_steps_1 fNil (fCons (fV (fVar 2)) fNil)) (fCall c_most_steps [] (fCons (fV (fVar 2)) fNil)))) (sRet (fCon (.bl false))) sNil)))) (sRet (fCon (.bl true))))
section
variable {P : Program} {w : World} {K : PySem.W.Frag} {mg : Str → Option Value} {base : Heap}
theorem ds_is_whole (T : Txt mg)  {f : Addr} {cdv : Value} {A : Around} {outer : List Env} {s : Shared} {H : Hp} {E : XK} (hr : Room 0 (A.deeper (envOfC "is_whole" (defScope st_is_whole) s.heap.objs.size f cdv))) : DSs (cxOf CX0 P w K mg base N_is_whole "is_whole" (defScope st_is_whole) f cdv A outer s H E).nox (defBody st_is_whole) fb_is_whole := by
  have nd := sc_is_whole.nd
  exact (dss_one (ds_ret (de_and (de_isi T.isinstance rfl (dr_cons (de_v 0) (dr_cons (de_ty T.int_ bt_int rfl) dr_nil))) (de_one (de_not (de_isi T.isinstance rfl (dr_cons (de_v 0) (dr_cons (de_ty T.bool_ bt_bool rfl) dr_nil))))))))
theorem ds_is_count (T : Txt mg) (F_is_whole : FnC P w K mg base "is_whole" st_is_whole ["value"] c_is_whole 1) {f : Addr} {cdv : Value} {A : Around} {outer : List Env} {s : Shared} {H : Hp} {E : XK} (hr : Room 1 (A.deeper (envOfC "is_count" (defScope st_is_count) s.heap.objs.size f cdv))) : DSs (cxOf CX0 P w K mg base N_is_count "is_count" (defScope st_is_count) f cdv A outer s H E).nox (defBody st_is_count) fb_is_count := by
  have nd := sc_is_count.nd
  exact (dss_one (ds_ret (de_and (de_fn F_is_whole (da_cons (dv (de_v 0)) da_nil) hr) (de_one (de_ge (de_v 0) de_int)))))
theorem ds_check_count (T : Txt mg) (F_is_count : FnC P w K mg base "is_count" st_is_count ["value"] c_is_count 2) {f : Addr} {cdv : Value} {A : Around} {outer : List Env} {s : Shared} {H : Hp} {E : XK} (hr : Room 2 (A.deeper (envOfC "check_count" (defScope st_check_count) s.heap.objs.size f cdv))) : DSs (cxOf CX0 P w K mg base N_check_count "check_count" (defScope st_check_count) f cdv A outer s H E).nox (defBody st_check_count) fb_check_count := by
  have nd := sc_check_count.nd
  exact (dss_one (ds_if (dt_not (dt_val (de_fn F_is_count (da_cons (dv (de_v 0)) da_nil) hr))) (dss_one ds_never) dss_nil))
theorem ds_choices (T : Txt mg)  {f : Addr} {cdv : Value} {A : Around} {outer : List Env} {s : Shared} {H : Hp} {E : XK} (hr : Room 0 (A.deeper (envOfC "choices" (defScope st_choices) s.heap.objs.size f cdv))) : DSs (cxOf CX0 P w K mg base N_choices "choices" (defScope st_choices) f cdv A outer s H E).nox (defBody st_choices) fb_choices := by
  have nd := sc_choices.nd
  exact (dss_cons (ds_set (i := 1) nd (de_lst (da_cons (dv (de_lst (da_cons (dv de_int) da_nil))) da_nil)))
    (dss_cons (ds_for PassesOwn.never rfl (di_range1 T.range rfl (dr_cons (de_v 0) dr_nil)) (dg_name 2 nd) (dss_one (ds_expr (de_append (de_v 1) (dv (de_add (de_add (de_lst (da_cons (dv de_int) da_nil)) (de_lc (own := [("one", 3), ("other", 4)]) rfl nd (blkOk_by (N := N_choices) (sc := defScope st_choices) (by decide +kernel)) (di_zip T.zip rfl (da_cons (dv (de_ix (hU1 hr) (de_v 1) (de_neg de_int))) (da_cons (dv (de_slice (de_ix (hU1 hr) (de_v 1) (de_neg de_int)) (do_some de_int) do_none)) da_nil))) (fun _ _ _ _ _ => (dg_tup rfl (dgs_cons (dg_name 3 nd) (dgs_cons (dg_name 4 nd) dgs_nil)))) (by decide) (fun _ _ _ _ _ => dts_nil) (fun _ _ _ _ _ => (dv (de_add (de_v 3) (de_v 4)))))) (de_lst (da_cons (dv de_int) da_nil))))))))
    (dss_one (ds_ret (de_v 1)))))
theorem ds_rings_by_number (T : Txt mg)  {f : Addr} {cdv : Value} {A : Around} {outer : List Env} {s : Shared} {H : Hp} {E : XK} (hr : Room 0 (A.deeper (envOfC "rings_by_number" (defScope st_rings_by_number) s.heap.objs.size f cdv))) : DSs (cxOf CX0 P w K mg base N_rings_by_number "rings_by_number" (defScope st_rings_by_number) f cdv A outer s H E).nox (defBody st_rings_by_number) fb_rings_by_number := by
  have nd := sc_rings_by_number.nd
  exact (dss_cons (ds_set (i := 1) nd (de_lst (da_cons (dv (de_add (de_lst (da_cons (dv de_int) da_nil)) (de_mul (de_lst (da_cons (dv de_int) da_nil)) (de_v 0)))) (da_cons (dv (de_mul (de_lst (da_cons (dv de_int) da_nil)) (de_add (de_v 0) de_int))) da_nil))))
    (dss_cons (ds_for PassesOwn.never rfl (di_range2 T.range rfl (dr_cons de_int (dr_cons (de_add (de_v 0) de_int) dr_nil))) (dg_name 2 nd) (dss_cons (ds_set (i := 3) nd (de_mul (de_lst (da_cons (dv de_int) da_nil)) (de_add (de_v 0) de_int)))
    (dss_cons (ds_for PassesOwn.never rfl (di_range1 T.range rfl (dr_cons (de_add (de_v 0) de_int) dr_nil)) (dg_name 4 nd) (dss_cons (ds_asg (de_mul (de_sub (de_v 2) de_int) (de_ix (hU1 hr) (de_ix (hU1 hr) (de_v 1) (de_neg de_int)) (de_v 4))) (dg_put (hU1 hr) (de_v 3) (de_v 4) (by intro _; rfl)))
    (dss_one (ds_if (dt_gt (de_v 4) de_int) (dss_one (ds_asg (de_add (de_ix (hU1 hr) (de_v 3) (de_v 4)) (de_mul (de_sub (de_v 2) de_int) (de_ix (hU1 hr) (de_ix (hU1 hr) (de_v 1) (de_neg de_int)) (de_sub (de_v 4) de_int)))) (dg_put (hU1 hr) (de_v 3) (de_v 4) (by intro _; rfl)))) dss_nil))))
    (dss_one (ds_expr (de_append (de_v 1) (dv (de_v 3))))))))
    (dss_one (ds_ret (de_v 1)))))
theorem ds_power (T : Txt mg)  {f : Addr} {cdv : Value} {A : Around} {outer : List Env} {s : Shared} {H : Hp} {E : XK} (hr : Room 0 (A.deeper (envOfC "power" (defScope st_power) s.heap.objs.size f cdv))) : DSs (cxOf CX0 P w K mg base N_power "power" (defScope st_power) f cdv A outer s H E).nox (defBody st_power) fb_power := by
  have nd := sc_power.nd
  exact (dss_cons (ds_set (i := 2) nd de_int)
    (dss_cons (ds_for PassesOwn.never rfl (di_range1 T.range rfl (dr_cons (de_v 1) dr_nil)) (dg_name 3 nd) (dss_one (ds_set (i := 2) nd (de_mul (de_v 2) (de_v 0)))))
    (dss_one (ds_ret (de_v 2)))))
theorem ds_calm_by_stays (T : Txt mg) (F_power : FnC P w K mg base "power" st_power ["base", "exponent"] c_power 1) {f : Addr} {cdv : Value} {A : Around} {outer : List Env} {s : Shared} {H : Hp} {E : XK} (hr : Room 1 (A.deeper (envOfC "calm_by_stays" (defScope st_calm_by_stays) s.heap.objs.size f cdv))) : DSs (cxOf CX0 P w K mg base N_calm_by_stays "calm_by_stays" (defScope st_calm_by_stays) f cdv A outer s H E).nox (defBody st_calm_by_stays) fb_calm_by_stays := by
  have nd := sc_calm_by_stays.nd
  exact (dss_cons (ds_set (i := 3) nd (de_lst da_nil))
    (dss_cons (ds_for PassesOwn.never rfl (di_range1 T.range rfl (dr_cons (de_add (de_v 0) de_int) dr_nil)) (dg_name 4 nd) (dss_cons (ds_set (i := 5) nd (de_lst da_nil))
    (dss_cons (ds_for PassesOwn.never rfl (di_range1 T.range rfl (dr_cons (de_add (de_v 4) de_int) dr_nil)) (dg_name 6 nd) (dss_cons (ds_set (i := 7) nd (de_mul (de_ix (hU1 hr) (de_ix (hU1 hr) (de_v 1) (de_v 4)) (de_v 6)) (de_fn F_power (da_cons (dv (de_sub (de_v 4) de_int)) (da_cons (dv (de_sub (de_v 4) (de_v 6))) da_nil)) hr)))
    (dss_cons (ds_for PassesOwn.never rfl (di_range2 T.range rfl (dr_cons de_int (dr_cons (de_add (de_sub (de_v 4) (de_v 6)) de_int) dr_nil))) (dg_name 8 nd) (dss_one (ds_set (i := 7) nd (de_sub (de_v 7) (de_mul (de_mul (de_ix (hU1 hr) (de_ix (hU1 hr) (de_v 1) (de_v 4)) (de_v 8)) (de_ix (hU1 hr) (de_v 2) (de_v 8))) (de_ix (hU1 hr) (de_ix (hU1 hr) (de_v 3) (de_sub (de_v 4) (de_v 8))) (de_v 6)))))))
    (dss_one (ds_expr (de_append (de_v 5) (dv (de_v 7))))))))
    (dss_one (ds_expr (de_append (de_v 3) (dv (de_v 5))))))))
    (dss_one (ds_ret (de_v 3)))))
theorem ds_how_many (T : Txt mg) (F_check_count : FnC P w K mg base "check_count" st_check_count ["number"] c_check_count 3) (F_rings_by_number : FnC P w K mg base "rings_by_number" st_rings_by_number ["most"] c_rings_by_number 1) (F_choices : FnC P w K mg base "choices" st_choices ["most"] c_choices 1) (F_calm_by_stays : FnC P w K mg base "calm_by_stays" st_calm_by_stays ["most", "sets", "ringed_ways"] c_calm_by_stays 2) {f : Addr} {cdv : Value} {A : Around} {outer : List Env} {s : Shared} {H : Hp} {E : XK} (hr : Room 3 (A.deeper (envOfC "how_many" (defScope st_how_many) s.heap.objs.size f cdv))) : DSs (cxOf CX0 P w K mg base N_how_many "how_many" (defScope st_how_many) f cdv A outer s H E).nox (defBody st_how_many) fb_how_many := by
  have nd := sc_how_many.nd
  exact (dss_cons (ds_expr (de_fn F_check_count (da_cons (dv (de_v 0)) da_nil) hr))
    (dss_cons (ds_expr (de_fn F_check_count (da_cons (dv (de_v 1)) da_nil) hr))
    (dss_cons (ds_par 3 4 nd (da_cons (dv (de_fn F_choices (da_cons (dv (de_v 0)) da_nil) hr)) (da_cons (dv (de_fn F_rings_by_number (da_cons (dv (de_v 0)) da_nil) hr)) da_nil)))
    (dss_cons (ds_par 5 6 nd (da_cons (dv (de_fn F_calm_by_stays (da_cons (dv (de_v 0)) (da_cons (dv (de_v 3)) (da_cons (dv (de_lc (own := [("row", 9)]) rfl nd (blkOk_by (N := N_how_many) (sc := defScope st_how_many) (by decide +kernel)) (di_any (de_v 4)) (fun _ _ _ _ _ => (dg_name 9 nd)) (by decide) (fun _ _ _ _ _ => dts_nil) (fun _ _ _ _ _ => (dv (de_sum rfl T.sum rfl (dr_cons (de_v 9) dr_nil)))))) da_nil))) hr)) (da_cons (dv de_int) da_nil)))
    (dss_cons (ds_for PassesOwn.never rfl (di_range1 T.range rfl (dr_cons (de_add (de_v 0) de_int) dr_nil)) (dg_name 2 nd) (dss_one (ds_for PassesOwn.never rfl (di_range1 T.range rfl (dr_cons (de_add (de_sub (de_v 0) (de_v 2)) de_int) dr_nil)) (dg_name 7 nd) (dss_cons (ds_set (i := 8) nd (de_add (de_sub (de_v 1) (de_v 0)) (de_v 7)))
    (dss_one (ds_if (dt_lele de_int (de_v 8) (de_v 0)) (dss_one (ds_set (i := 6) nd (de_add (de_v 6) (de_mul (de_mul (de_ix (hU1 hr) (de_ix (hU1 hr) (de_v 3) (de_v 0)) (de_v 2)) (de_ix (hU1 hr) (de_ix (hU1 hr) (de_v 4) (de_v 2)) (de_v 8))) (de_ix (hU1 hr) (de_ix (hU1 hr) (de_v 5) (de_sub (de_v 0) (de_v 2))) (de_v 7)))))) dss_nil))))))
    (dss_one (ds_ret (de_v 6))))))))
theorem ds_most_steps (T : Txt mg) (F_check_count : FnC P w K mg base "check_count" st_check_count ["number"] c_check_count 3) {f : Addr} {cdv : Value} {A : Around} {outer : List Env} {s : Shared} {H : Hp} {E : XK} (hr : Room 3 (A.deeper (envOfC "most_steps" (defScope st_most_steps) s.heap.objs.size f cdv))) : DSs (cxOf CX0 P w K mg base N_most_steps "most_steps" (defScope st_most_steps) f cdv A outer s H E).nox (defBody st_most_steps) fb_most_steps := by
  have nd := sc_most_steps.nd
  exact (dss_cons (ds_expr (de_fn F_check_count (da_cons (dv (de_v 0)) da_nil) hr))
    (dss_one (ds_ret (de_if (dt_ne (hU hr) (de_v 0) de_int) (de_add (de_v 0) (de_div (de_v 0) de_int)) de_int))))
theorem ds__law_purse (T : Txt mg)  {f : Addr} {cdv : Value} {A : Around} {outer : List Env} {s : Shared} {H : Hp} {E : XK} (hr : Room 0 (A.deeper (envOfC "_law_purse" (defScope st__law_purse) s.heap.objs.size f cdv))) : DSs (cxOf CX0 P w K mg base N__law_purse "_law_purse" (defScope st__law_purse) f cdv A outer s H E).nox (defBody st__law_purse) fb__law_purse := by
  have nd := sc__law_purse.nd
  exact (dss_cons (ds_set (i := 2) nd (de_sum rfl T.sum rfl (dr_cons (de_slice (de_v 0) (do_some (de_v 1)) (do_some (de_add (de_v 1) de_int))) dr_nil)))
    (dss_one (ds_ret (de_lst (da_cons (dv (de_mod (de_max2 rfl T.max rfl (dr_cons (de_sub (de_v 2) (de_pow de_int de_int)) (dr_cons de_int dr_nil))) (de_pow (de_pow de_int de_int) de_int))) (da_cons (dv (de_mod (de_v 2) de_int)) (da_cons (dv de_int) (da_cons (dv (de_v 1)) da_nil))))))))
theorem ds__law_mixed (T : Txt mg)  {f : Addr} {cdv : Value} {A : Around} {outer : List Env} {s : Shared} {H : Hp} {E : XK} (hr : Room 0 (A.deeper (envOfC "_law_mixed" (defScope st__law_mixed) s.heap.objs.size f cdv))) : DSs (cxOf CX0 P w K mg base N__law_mixed "_law_mixed" (defScope st__law_mixed) f cdv A outer s H E).nox (defBody st__law_mixed) fb__law_mixed := by
  have nd := sc__law_mixed.nd
  exact (dss_cons (ds_set (i := 3) nd (de_add (de_mul (de_v 0) de_int) (de_mul (de_mul de_int (de_v 1)) (de_v 1))))
    (dss_cons (ds_set (i := 3) nd (de_mod (de_add (de_add (de_v 3) (de_mul de_int (de_v 2))) (de_v 1)) de_int))
    (dss_cons (ds_set (i := 3) nd (de_mod (de_add (de_mul (de_v 3) (de_v 3)) de_int) de_int))
    (dss_one (ds_ret (de_mod (de_mul (de_v 3) de_int) de_int))))))
theorem ds__law_draw (T : Txt mg) (F__law_mixed : FnC P w K mg base "_law_mixed" st__law_mixed ["_law_seed", "_law_turn", "_law_at"] c__law_mixed 1) {f : Addr} {cdv : Value} {A : Around} {outer : List Env} {s : Shared} {H : Hp} {E : XK} (hr : Room 1 (A.deeper (envOfC "_law_draw" (defScope st__law_draw) s.heap.objs.size f cdv))) : DSs (cxOf CX0 P w K mg base N__law_draw "_law_draw" (defScope st__law_draw) f cdv A outer s H E).nox (defBody st__law_draw) fb__law_draw := by
  have nd := sc__law_draw.nd
  exact (dss_cons (ds_if (dt_gt (de_ix (hU1 hr) (de_v 0) de_int) de_int) (dss_cons (ds_set (i := 4) nd (de_mod (de_ix (hU1 hr) (de_v 0) de_int) (de_v 1)))
    (dss_cons (ds_asg (de_div (de_ix (hU1 hr) (de_v 0) de_int) (de_v 1)) (dg_put (hU1 hr) (de_v 0) de_int (by intro _; rfl)))
    (dss_one (ds_ret (de_v 4))))) dss_nil)
    (dss_cons (ds_set (i := 2) nd de_int)
    (dss_cons (ds_for PassesOwn.never rfl (di_range1 T.range rfl (dr_cons (de_add de_int (de_div (de_bits (de_v 1)) de_int)) dr_nil)) (dg_name 3 nd) (dss_cons (ds_asg (de_add (de_ix (hU1 hr) (de_v 0) de_int) de_int) (dg_put (hU1 hr) (de_v 0) de_int (by intro _; rfl)))
    (dss_one (ds_set (i := 2) nd (de_add (de_mul (de_v 2) de_int) (de_fn F__law_mixed (da_cons (dv (de_ix (hU1 hr) (de_v 0) de_int)) (da_cons (dv (de_ix (hU1 hr) (de_v 0) de_int)) (da_cons (dv (de_ix (hU1 hr) (de_v 0) de_int)) da_nil))) hr))))))
    (dss_one (ds_ret (de_mod (de_v 2) (de_v 1)))))))
theorem ds__law_purses (T : Txt mg) (F__law_purse : FnC P w K mg base "_law_purse" st__law_purse ["_law_script", "_law_at"] c__law_purse 1) {f : Addr} {cdv : Value} {A : Around} {outer : List Env} {s : Shared} {H : Hp} {E : XK} (hr : Room 1 (A.deeper (envOfC "_law_purses" (defScope st__law_purses) s.heap.objs.size f cdv))) : DSs (cxOf CX0 P w K mg base N__law_purses "_law_purses" (defScope st__law_purses) f cdv A outer s H E).nox (defBody st__law_purses) fb__law_purses := by
  have nd := sc__law_purses.nd
  exact (dss_one (ds_ret (de_lc (own := [("_law_at", 2)]) rfl nd (blkOk_by (N := N__law_purses) (sc := defScope st__law_purses) (by decide +kernel)) (di_range1 T.range rfl (dr_cons (de_max2 rfl T.max rfl (dr_cons de_int (dr_cons (de_min2 rfl T.min rfl (dr_cons (de_v 1) (dr_cons (de_len T.len rfl (dr_cons (de_v 0) dr_nil)) dr_nil))) dr_nil))) dr_nil)) (fun _ _ _ _ _ => (dg_name 2 nd)) (by decide) (fun _ _ _ _ _ => dts_nil) (fun _ _ _ _ _ => (dv_cell (de_fn F__law_purse (da_cons (dv (de_v 0)) (da_cons (dv (de_v 2)) da_nil)) hr))))))
theorem ds_law (T : Txt mg) (F__law_purses : FnC P w K mg base "_law_purses" st__law_purses ["_law_script", "_law_few"] c__law_purses 2) (F__law_draw : FnC P w K mg base "_law_draw" st__law_draw ["_law_purse_here", "_law_many"] c__law_draw 2) (F_how_many : FnC P w K mg base "how_many" st_how_many ["labels", "steps"] c_how_many 4) (F_most_steps : FnC P w K mg base "most_steps" st_most_steps ["labels"] c_most_steps 4) {f : Addr} {cdv : Value} {A : Around} {outer : List Env} {s : Shared} {H : Hp} {E : XK} (hr : Room 4 (A.deeper (envOfC "law" (defScope st_law) s.heap.objs.size f cdv))) : DSs (cxOf CX0 P w K mg base N_law "law" (defScope st_law) f cdv A outer s H E).nox (defBody st_law) fb_law := by
  have nd := sc_law.nd
  exact (dss_cons (ds_for PassesOwn.never rfl (di_any (de_fn F__law_purses (da_cons (dv (de_v 0)) (da_cons (dv de_int) da_nil)) hr)) (dg_name 1 nd) (dss_cons (ds_par 2 3 nd (da_cons (dv (de_add de_int (de_fn F__law_draw (da_cons (dv (de_v 1)) (da_cons (dv de_int) da_nil)) hr))) (da_cons (dv (de_fn F__law_draw (da_cons (dv (de_v 1)) (da_cons (dv de_int) da_nil)) hr)) da_nil)))
    (dss_cons (ds_if (dt_ne (hU hr) (de_fnK0 g_how_many_0 F_how_many kb_how_many_0 gr_how_many_0 gw_how_many_0 (dk_cons (dv (de_v 3)) (dk_cons (dv (de_v 2)) dk_nil)) hr) (de_fn F_how_many (da_cons (dv (de_v 2)) (da_cons (dv (de_v 3)) da_nil)) hr)) (dss_one (ds_ret de_bl)) dss_nil)
    (dss_one (ds_if (dt_ne (hU hr) (de_fnK0 g_most_steps_1 F_most_steps kb_most_steps_1 gr_most_steps_1 gw_most_steps_1 (dk_cons (dv (de_v 2)) dk_nil) hr) (de_fn F_most_steps (da_cons (dv (de_v 2)) da_nil) hr)) (dss_one (ds_ret de_bl)) dss_nil)))))
    (dss_one (ds_ret de_bl)))
end
theorem law_is_whole : ∀ ds S G, c_is_whole ds S G → fb_is_whole (enOf G) (startS N_is_whole ds S) := by
  rintro ds S G ⟨i, rfl, h⟩
  show fb_is_whole (enOf G) ⟨[.val (.int i)], S⟩
  unfold fb_is_whole
  simp only [sSeq, sNil, sPass, sBreak, sCont, sDrop, sRet, sRetN, sIf, sSet, sSetC, sFor, sAsg, fCon, fOp, f2, fV, fE, fCell, fT, gYes, gAnd, gOr, gNot, fAnd, fOr, fNot, fIf, fNeg, fCh, fCall, fCallK, fCons, fNil, fTup, fLst, fDnew, rNil, rCons, fBlt, fRg, fAny, fLc, fSl, fO, fNoO, gNm, gPut, fM1, fBits, kEq, kNe, enOf, wipeS, unwS, List.getElem?_cons_zero, List.getElem?_cons_succ, List.set_cons_zero, List.set_cons_succ, List.append_nil, List.nil_append, List.cons_append, if_true, if_false, if_pos, Bool.false_eq_true, true_and, and_true, exists_eq_left', exists_eq_left, exists_and_left, D.int.injEq, D.str.injEq, D.lst.injEq, Option.some.injEq, exists_const, ite_true, ite_false, Bool.not_true, Bool.not_false, Bool.false_xor, Bool.true_xor, reduceIte, tyD, x_fVar, x_fv1, x_fv2, x_tl, x_td, x_fz1, x_fz2, x_fz3, x_fzS1, x_fzS2, x_vw_non, x_vw_bl, x_vw_int, x_vw_str, x_vw_lst, x_vw_tup, x_vw_dic, x_vw_raw, x_vw_loc, x_vwL, x_vw_new, x_vw_slo, x_vwS1, x_vwS2, x_isI, x_isB, x_add_i, x_add_s, x_add_l, x_add_t, x_mul_i, x_mul_s, x_mul_l, x_sub, x_mod, x_div, x_pow, x_lt_i, x_gt_i, x_le_i, x_ge_i, x_lt_s, x_gt_s, x_le_s, x_ge_s, x_in_s, x_in_ds, x_in_di, x_in_l, x_in_t, x_ix_l, x_ix_t, x_ix_s, x_ix_ds, x_ix_di, x_is, x_sl_l, x_sl_s, x_sl_t, x_len_l, x_len_t, x_len_s, x_len_d, x_list_l, x_list_t, x_sum, x_max, x_min, x_isi, x_rg1, x_rg2, x_rg3, x_wk_l, x_wk_t, x_wk_s, x_wk_d, x_enum, x_enS, x_zip, x_ziS, x_items, x_itS, x_values, x_vaS, x_rt1, x_rt2, x_rt3, x_rtS1, x_rtS2, x_set1, x_set2, x_set3, x_cell1, x_cell2, x_cell3, x_on1, x_on2, x_onS1, x_onS2, x_onL, x_put_l, x_put_ds, x_put_di, x_app, x_isL, x_mLst, x_tp, x_gs0, x_gs1, x_par2, x_par3, x_p2S, x_p3S, x_keep1, x_keep2, x_keep3, x_wR0, x_wR1, x_uR0, x_uR1, x_vws0, x_vws1, atI_0, atI_1, atI_2, atI_3, ixN_0, ixN_1, ixN_2, ixN_3, cmp_int, cmp_str, cmp_bl, eqD_int, eqD_str, eqD_bl, tT_NoneType, tT_bool, tT_int, tT_str, tT_list, tT_tuple, tT_dict, tN_int, tN_bool, tN_str, tN_list, tN_tuple, tN_dict, iT_NoneType_int, iT_NoneType_bool, iT_NoneType_str, iT_NoneType_list, iT_NoneType_tuple, iT_NoneType_dict, iT_bool_int, iT_bool_bool, iT_bool_str, iT_bool_list, iT_bool_tuple, iT_bool_dict, iT_int_int, iT_int_bool, iT_int_str, iT_int_list, iT_int_tuple, iT_int_dict, iT_str_int, iT_str_bool, iT_str_str, iT_str_list, iT_str_tuple, iT_str_dict, iT_list_int, iT_list_bool, iT_list_str, iT_list_list, iT_list_tuple, iT_list_dict, iT_tuple_int, iT_tuple_bool, iT_tuple_str, iT_tuple_list, iT_tuple_tuple, iT_tuple_dict, iT_dict_int, iT_dict_bool, iT_dict_str, iT_dict_list, iT_dict_tuple, iT_dict_dict]
  exact h
theorem law_is_count : ∀ ds S G, c_is_count ds S G → fb_is_count (enOf G) (startS N_is_count ds S) := by
  rintro ds S G ⟨i, rfl, h⟩
  show fb_is_count (enOf G) ⟨[.val (.int i)], S⟩
  unfold fb_is_count
  simp only [sSeq, sNil, sPass, sBreak, sCont, sDrop, sRet, sRetN, sIf, sSet, sSetC, sFor, sAsg, fCon, fOp, f2, fV, fE, fCell, fT, gYes, gAnd, gOr, gNot, fAnd, fOr, fNot, fIf, fNeg, fCh, fCall, fCallK, fCons, fNil, fTup, fLst, fDnew, rNil, rCons, fBlt, fRg, fAny, fLc, fSl, fO, fNoO, gNm, gPut, fM1, fBits, kEq, kNe, enOf, wipeS, unwS, List.getElem?_cons_zero, List.getElem?_cons_succ, List.set_cons_zero, List.set_cons_succ, List.append_nil, List.nil_append, List.cons_append, if_true, if_false, if_pos, Bool.false_eq_true, true_and, and_true, exists_eq_left', exists_eq_left, exists_and_left, D.int.injEq, D.str.injEq, D.lst.injEq, Option.some.injEq, exists_const, ite_true, ite_false, Bool.not_true, Bool.not_false, Bool.false_xor, Bool.true_xor, reduceIte, tyD, x_fVar, x_fv1, x_fv2, x_tl, x_td, x_fz1, x_fz2, x_fz3, x_fzS1, x_fzS2, x_vw_non, x_vw_bl, x_vw_int, x_vw_str, x_vw_lst, x_vw_tup, x_vw_dic, x_vw_raw, x_vw_loc, x_vwL, x_vw_new, x_vw_slo, x_vwS1, x_vwS2, x_isI, x_isB, x_add_i, x_add_s, x_add_l, x_add_t, x_mul_i, x_mul_s, x_mul_l, x_sub, x_mod, x_div, x_pow, x_lt_i, x_gt_i, x_le_i, x_ge_i, x_lt_s, x_gt_s, x_le_s, x_ge_s, x_in_s, x_in_ds, x_in_di, x_in_l, x_in_t, x_ix_l, x_ix_t, x_ix_s, x_ix_ds, x_ix_di, x_is, x_sl_l, x_sl_s, x_sl_t, x_len_l, x_len_t, x_len_s, x_len_d, x_list_l, x_list_t, x_sum, x_max, x_min, x_isi, x_rg1, x_rg2, x_rg3, x_wk_l, x_wk_t, x_wk_s, x_wk_d, x_enum, x_enS, x_zip, x_ziS, x_items, x_itS, x_values, x_vaS, x_rt1, x_rt2, x_rt3, x_rtS1, x_rtS2, x_set1, x_set2, x_set3, x_cell1, x_cell2, x_cell3, x_on1, x_on2, x_onS1, x_onS2, x_onL, x_put_l, x_put_ds, x_put_di, x_app, x_isL, x_mLst, x_tp, x_gs0, x_gs1, x_par2, x_par3, x_p2S, x_p3S, x_keep1, x_keep2, x_keep3, x_wR0, x_wR1, x_uR0, x_uR1, x_vws0, x_vws1, atI_0, atI_1, atI_2, atI_3, ixN_0, ixN_1, ixN_2, ixN_3, cmp_int, cmp_str, cmp_bl, eqD_int, eqD_str, eqD_bl, tT_NoneType, tT_bool, tT_int, tT_str, tT_list, tT_tuple, tT_dict, tN_int, tN_bool, tN_str, tN_list, tN_tuple, tN_dict, iT_NoneType_int, iT_NoneType_bool, iT_NoneType_str, iT_NoneType_list, iT_NoneType_tuple, iT_NoneType_dict, iT_bool_int, iT_bool_bool, iT_bool_str, iT_bool_list, iT_bool_tuple, iT_bool_dict, iT_int_int, iT_int_bool, iT_int_str, iT_int_list, iT_int_tuple, iT_int_dict, iT_str_int, iT_str_bool, iT_str_str, iT_str_list, iT_str_tuple, iT_str_dict, iT_list_int, iT_list_bool, iT_list_str, iT_list_list, iT_list_tuple, iT_list_dict, iT_tuple_int, iT_tuple_bool, iT_tuple_str, iT_tuple_list, iT_tuple_tuple, iT_tuple_dict, iT_dict_int, iT_dict_bool, iT_dict_str, iT_dict_list, iT_dict_tuple, iT_dict_dict]
  exact ⟨i, rfl, h⟩
theorem law_check_count : ∀ ds S G, c_check_count ds S G → fb_check_count (enOf G) (startS N_check_count ds S) := by
  rintro ds S G ⟨i, rfl, hi, h⟩
  show fb_check_count (enOf G) ⟨[.val (.int i)], S⟩
  unfold fb_check_count
  simp only [sSeq, sNil, sPass, sBreak, sCont, sDrop, sRet, sRetN, sIf, sSet, sSetC, sFor, sAsg, fCon, fOp, f2, fV, fE, fCell, fT, gYes, gAnd, gOr, gNot, fAnd, fOr, fNot, fIf, fNeg, fCh, fCall, fCallK, fCons, fNil, fTup, fLst, fDnew, rNil, rCons, fBlt, fRg, fAny, fLc, fSl, fO, fNoO, gNm, gPut, fM1, fBits, kEq, kNe, enOf, wipeS, unwS, List.getElem?_cons_zero, List.getElem?_cons_succ, List.set_cons_zero, List.set_cons_succ, List.append_nil, List.nil_append, List.cons_append, if_true, if_false, if_pos, Bool.false_eq_true, true_and, and_true, exists_eq_left', exists_eq_left, exists_and_left, D.int.injEq, D.str.injEq, D.lst.injEq, Option.some.injEq, exists_const, ite_true, ite_false, Bool.not_true, Bool.not_false, Bool.false_xor, Bool.true_xor, reduceIte, tyD, x_fVar, x_fv1, x_fv2, x_tl, x_td, x_fz1, x_fz2, x_fz3, x_fzS1, x_fzS2, x_vw_non, x_vw_bl, x_vw_int, x_vw_str, x_vw_lst, x_vw_tup, x_vw_dic, x_vw_raw, x_vw_loc, x_vwL, x_vw_new, x_vw_slo, x_vwS1, x_vwS2, x_isI, x_isB, x_add_i, x_add_s, x_add_l, x_add_t, x_mul_i, x_mul_s, x_mul_l, x_sub, x_mod, x_div, x_pow, x_lt_i, x_gt_i, x_le_i, x_ge_i, x_lt_s, x_gt_s, x_le_s, x_ge_s, x_in_s, x_in_ds, x_in_di, x_in_l, x_in_t, x_ix_l, x_ix_t, x_ix_s, x_ix_ds, x_ix_di, x_is, x_sl_l, x_sl_s, x_sl_t, x_len_l, x_len_t, x_len_s, x_len_d, x_list_l, x_list_t, x_sum, x_max, x_min, x_isi, x_rg1, x_rg2, x_rg3, x_wk_l, x_wk_t, x_wk_s, x_wk_d, x_enum, x_enS, x_zip, x_ziS, x_items, x_itS, x_values, x_vaS, x_rt1, x_rt2, x_rt3, x_rtS1, x_rtS2, x_set1, x_set2, x_set3, x_cell1, x_cell2, x_cell3, x_on1, x_on2, x_onS1, x_onS2, x_onL, x_put_l, x_put_ds, x_put_di, x_app, x_isL, x_mLst, x_tp, x_gs0, x_gs1, x_par2, x_par3, x_p2S, x_p3S, x_keep1, x_keep2, x_keep3, x_wR0, x_wR1, x_uR0, x_uR1, x_vws0, x_vws1, atI_0, atI_1, atI_2, atI_3, ixN_0, ixN_1, ixN_2, ixN_3, cmp_int, cmp_str, cmp_bl, eqD_int, eqD_str, eqD_bl, tT_NoneType, tT_bool, tT_int, tT_str, tT_list, tT_tuple, tT_dict, tN_int, tN_bool, tN_str, tN_list, tN_tuple, tN_dict, iT_NoneType_int, iT_NoneType_bool, iT_NoneType_str, iT_NoneType_list, iT_NoneType_tuple, iT_NoneType_dict, iT_bool_int, iT_bool_bool, iT_bool_str, iT_bool_list, iT_bool_tuple, iT_bool_dict, iT_int_int, iT_int_bool, iT_int_str, iT_int_list, iT_int_tuple, iT_int_dict, iT_str_int, iT_str_bool, iT_str_str, iT_str_list, iT_str_tuple, iT_str_dict, iT_list_int, iT_list_bool, iT_list_str, iT_list_list, iT_list_tuple, iT_list_dict, iT_tuple_int, iT_tuple_bool, iT_tuple_str, iT_tuple_list, iT_tuple_tuple, iT_tuple_dict, iT_dict_int, iT_dict_bool, iT_dict_str, iT_dict_list, iT_dict_tuple, iT_dict_dict]
  refine ⟨i, rfl, ?_⟩
  simp only [sSeq, sNil, sPass, sBreak, sCont, sDrop, sRet, sRetN, sIf, sSet, sSetC, sFor, sAsg, fCon, fOp, f2, fV, fE, fCell, fT, gYes, gAnd, gOr, gNot, fAnd, fOr, fNot, fIf, fNeg, fCh, fCall, fCallK, fCons, fNil, fTup, fLst, fDnew, rNil, rCons, fBlt, fRg, fAny, fLc, fSl, fO, fNoO, gNm, gPut, fM1, fBits, kEq, kNe, enOf, wipeS, unwS, List.getElem?_cons_zero, List.getElem?_cons_succ, List.set_cons_zero, List.set_cons_succ, List.append_nil, List.nil_append, List.cons_append, if_true, if_false, if_pos, Bool.false_eq_true, true_and, and_true, exists_eq_left', exists_eq_left, exists_and_left, D.int.injEq, D.str.injEq, D.lst.injEq, Option.some.injEq, exists_const, ite_true, ite_false, Bool.not_true, Bool.not_false, Bool.false_xor, Bool.true_xor, reduceIte, tyD, x_fVar, x_fv1, x_fv2, x_tl, x_td, x_fz1, x_fz2, x_fz3, x_fzS1, x_fzS2, x_vw_non, x_vw_bl, x_vw_int, x_vw_str, x_vw_lst, x_vw_tup, x_vw_dic, x_vw_raw, x_vw_loc, x_vwL, x_vw_new, x_vw_slo, x_vwS1, x_vwS2, x_isI, x_isB, x_add_i, x_add_s, x_add_l, x_add_t, x_mul_i, x_mul_s, x_mul_l, x_sub, x_mod, x_div, x_pow, x_lt_i, x_gt_i, x_le_i, x_ge_i, x_lt_s, x_gt_s, x_le_s, x_ge_s, x_in_s, x_in_ds, x_in_di, x_in_l, x_in_t, x_ix_l, x_ix_t, x_ix_s, x_ix_ds, x_ix_di, x_is, x_sl_l, x_sl_s, x_sl_t, x_len_l, x_len_t, x_len_s, x_len_d, x_list_l, x_list_t, x_sum, x_max, x_min, x_isi, x_rg1, x_rg2, x_rg3, x_wk_l, x_wk_t, x_wk_s, x_wk_d, x_enum, x_enS, x_zip, x_ziS, x_items, x_itS, x_values, x_vaS, x_rt1, x_rt2, x_rt3, x_rtS1, x_rtS2, x_set1, x_set2, x_set3, x_cell1, x_cell2, x_cell3, x_on1, x_on2, x_onS1, x_onS2, x_onL, x_put_l, x_put_ds, x_put_di, x_app, x_isL, x_mLst, x_tp, x_gs0, x_gs1, x_par2, x_par3, x_p2S, x_p3S, x_keep1, x_keep2, x_keep3, x_wR0, x_wR1, x_uR0, x_uR1, x_vws0, x_vws1, atI_0, atI_1, atI_2, atI_3, ixN_0, ixN_1, ixN_2, ixN_3, cmp_int, cmp_str, cmp_bl, eqD_int, eqD_str, eqD_bl, tT_NoneType, tT_bool, tT_int, tT_str, tT_list, tT_tuple, tT_dict, tN_int, tN_bool, tN_str, tN_list, tN_tuple, tN_dict, iT_NoneType_int, iT_NoneType_bool, iT_NoneType_str, iT_NoneType_list, iT_NoneType_tuple, iT_NoneType_dict, iT_bool_int, iT_bool_bool, iT_bool_str, iT_bool_list, iT_bool_tuple, iT_bool_dict, iT_int_int, iT_int_bool, iT_int_str, iT_int_list, iT_int_tuple, iT_int_dict, iT_str_int, iT_str_bool, iT_str_str, iT_str_list, iT_str_tuple, iT_str_dict, iT_list_int, iT_list_bool, iT_list_str, iT_list_list, iT_list_tuple, iT_list_dict, iT_tuple_int, iT_tuple_bool, iT_tuple_str, iT_tuple_list, iT_tuple_tuple, iT_tuple_dict, iT_dict_int, iT_dict_bool, iT_dict_str, iT_dict_list, iT_dict_tuple, iT_dict_dict, decide_eq_true hi]
  exact h
theorem law_power : ∀ ds S G, c_power ds S G → fb_power (enOf G) (startS N_power ds S) := by
  rintro ds S G ⟨b, e, rfl, hb, he, h⟩
  show fb_power (enOf G) ⟨[.val (.int b), .val (.int e), .no, .no], S⟩
  unfold fb_power
  simp only [sSeq, sNil, sPass, sBreak, sCont, sDrop, sRet, sRetN, sIf, sSet, sSetC, sFor, sAsg, fCon, fOp, f2, fV, fE, fCell, fT, gYes, gAnd, gOr, gNot, fAnd, fOr, fNot, fIf, fNeg, fCh, fCall, fCallK, fCons, fNil, fTup, fLst, fDnew, rNil, rCons, fBlt, fRg, fAny, fLc, fSl, fO, fNoO, gNm, gPut, fM1, fBits, kEq, kNe, enOf, wipeS, unwS, List.getElem?_cons_zero, List.getElem?_cons_succ, List.set_cons_zero, List.set_cons_succ, List.append_nil, List.nil_append, List.cons_append, if_true, if_false, if_pos, Bool.false_eq_true, true_and, and_true, exists_eq_left', exists_eq_left, exists_and_left, D.int.injEq, D.str.injEq, D.lst.injEq, Option.some.injEq, exists_const, ite_true, ite_false, Bool.not_true, Bool.not_false, Bool.false_xor, Bool.true_xor, reduceIte, tyD, x_fVar, x_fv1, x_fv2, x_tl, x_td, x_fz1, x_fz2, x_fz3, x_fzS1, x_fzS2, x_vw_non, x_vw_bl, x_vw_int, x_vw_str, x_vw_lst, x_vw_tup, x_vw_dic, x_vw_raw, x_vw_loc, x_vwL, x_vw_new, x_vw_slo, x_vwS1, x_vwS2, x_isI, x_isB, x_add_i, x_add_s, x_add_l, x_add_t, x_mul_i, x_mul_s, x_mul_l, x_sub, x_mod, x_div, x_pow, x_lt_i, x_gt_i, x_le_i, x_ge_i, x_lt_s, x_gt_s, x_le_s, x_ge_s, x_in_s, x_in_ds, x_in_di, x_in_l, x_in_t, x_ix_l, x_ix_t, x_ix_s, x_ix_ds, x_ix_di, x_is, x_sl_l, x_sl_s, x_sl_t, x_len_l, x_len_t, x_len_s, x_len_d, x_list_l, x_list_t, x_sum, x_max, x_min, x_isi, x_rg1, x_rg2, x_rg3, x_wk_l, x_wk_t, x_wk_s, x_wk_d, x_enum, x_enS, x_zip, x_ziS, x_items, x_itS, x_values, x_vaS, x_rt1, x_rt2, x_rt3, x_rtS1, x_rtS2, x_set1, x_set2, x_set3, x_cell1, x_cell2, x_cell3, x_on1, x_on2, x_onS1, x_onS2, x_onL, x_put_l, x_put_ds, x_put_di, x_app, x_isL, x_mLst, x_tp, x_gs0, x_gs1, x_par2, x_par3, x_p2S, x_p3S, x_keep1, x_keep2, x_keep3, x_wR0, x_wR1, x_uR0, x_uR1, x_vws0, x_vws1, atI_0, atI_1, atI_2, atI_3, ixN_0, ixN_1, ixN_2, ixN_3, cmp_int, cmp_str, cmp_bl, eqD_int, eqD_str, eqD_bl, tT_NoneType, tT_bool, tT_int, tT_str, tT_list, tT_tuple, tT_dict, tN_int, tN_bool, tN_str, tN_list, tN_tuple, tN_dict, iT_NoneType_int, iT_NoneType_bool, iT_NoneType_str, iT_NoneType_list, iT_NoneType_tuple, iT_NoneType_dict, iT_bool_int, iT_bool_bool, iT_bool_str, iT_bool_list, iT_bool_tuple, iT_bool_dict, iT_int_int, iT_int_bool, iT_int_str, iT_int_list, iT_int_tuple, iT_int_dict, iT_str_int, iT_str_bool, iT_str_str, iT_str_list, iT_str_tuple, iT_str_dict, iT_list_int, iT_list_bool, iT_list_str, iT_list_list, iT_list_tuple, iT_list_dict, iT_tuple_int, iT_tuple_bool, iT_tuple_str, iT_tuple_list, iT_tuple_tuple, iT_tuple_dict, iT_dict_int, iT_dict_bool, iT_dict_str, iT_dict_list, iT_dict_tuple, iT_dict_dict]
  refine ⟨small62_nat (by omega), ?_⟩
  refine loop_inv (fun i s => ∃ x, s = ⟨[.val (.int b), .val (.int e), .val (.int (b ^ i)), x], S⟩) ⟨.no, by rw [Int.pow_zero]⟩ ?_ ?_
  · rintro i d s hd ⟨x, rfl⟩ P hP
    simp only [sSeq, sNil, sPass, sBreak, sCont, sDrop, sRet, sRetN, sIf, sSet, sSetC, sFor, sAsg, fCon, fOp, f2, fV, fE, fCell, fT, gYes, gAnd, gOr, gNot, fAnd, fOr, fNot, fIf, fNeg, fCh, fCall, fCallK, fCons, fNil, fTup, fLst, fDnew, rNil, rCons, fBlt, fRg, fAny, fLc, fSl, fO, fNoO, gNm, gPut, fM1, fBits, kEq, kNe, enOf, wipeS, unwS, List.getElem?_cons_zero, List.getElem?_cons_succ, List.set_cons_zero, List.set_cons_succ, List.append_nil, List.nil_append, List.cons_append, if_true, if_false, if_pos, Bool.false_eq_true, true_and, and_true, exists_eq_left', exists_eq_left, exists_and_left, D.int.injEq, D.str.injEq, D.lst.injEq, Option.some.injEq, exists_const, ite_true, ite_false, Bool.not_true, Bool.not_false, Bool.false_xor, Bool.true_xor, reduceIte, tyD, x_fVar, x_fv1, x_fv2, x_tl, x_td, x_fz1, x_fz2, x_fz3, x_fzS1, x_fzS2, x_vw_non, x_vw_bl, x_vw_int, x_vw_str, x_vw_lst, x_vw_tup, x_vw_dic, x_vw_raw, x_vw_loc, x_vwL, x_vw_new, x_vw_slo, x_vwS1, x_vwS2, x_isI, x_isB, x_add_i, x_add_s, x_add_l, x_add_t, x_mul_i, x_mul_s, x_mul_l, x_sub, x_mod, x_div, x_pow, x_lt_i, x_gt_i, x_le_i, x_ge_i, x_lt_s, x_gt_s, x_le_s, x_ge_s, x_in_s, x_in_ds, x_in_di, x_in_l, x_in_t, x_ix_l, x_ix_t, x_ix_s, x_ix_ds, x_ix_di, x_is, x_sl_l, x_sl_s, x_sl_t, x_len_l, x_len_t, x_len_s, x_len_d, x_list_l, x_list_t, x_sum, x_max, x_min, x_isi, x_rg1, x_rg2, x_rg3, x_wk_l, x_wk_t, x_wk_s, x_wk_d, x_enum, x_enS, x_zip, x_ziS, x_items, x_itS, x_values, x_vaS, x_rt1, x_rt2, x_rt3, x_rtS1, x_rtS2, x_set1, x_set2, x_set3, x_cell1, x_cell2, x_cell3, x_on1, x_on2, x_onS1, x_onS2, x_onL, x_put_l, x_put_ds, x_put_di, x_app, x_isL, x_mLst, x_tp, x_gs0, x_gs1, x_par2, x_par3, x_p2S, x_p3S, x_keep1, x_keep2, x_keep3, x_wR0, x_wR1, x_uR0, x_uR1, x_vws0, x_vws1, atI_0, atI_1, atI_2, atI_3, ixN_0, ixN_1, ixN_2, ixN_3, cmp_int, cmp_str, cmp_bl, eqD_int, eqD_str, eqD_bl, tT_NoneType, tT_bool, tT_int, tT_str, tT_list, tT_tuple, tT_dict, tN_int, tN_bool, tN_str, tN_list, tN_tuple, tN_dict, iT_NoneType_int, iT_NoneType_bool, iT_NoneType_str, iT_NoneType_list, iT_NoneType_tuple, iT_NoneType_dict, iT_bool_int, iT_bool_bool, iT_bool_str, iT_bool_list, iT_bool_tuple, iT_bool_dict, iT_int_int, iT_int_bool, iT_int_str, iT_int_list, iT_int_tuple, iT_int_dict, iT_str_int, iT_str_bool, iT_str_str, iT_str_list, iT_str_tuple, iT_str_dict, iT_list_int, iT_list_bool, iT_list_str, iT_list_list, iT_list_tuple, iT_list_dict, iT_tuple_int, iT_tuple_bool, iT_tuple_str, iT_tuple_list, iT_tuple_tuple, iT_tuple_dict, iT_dict_int, iT_dict_bool, iT_dict_str, iT_dict_list, iT_dict_tuple, iT_dict_dict]
    exact ⟨mulok (.inr hb), hP _ ⟨_, by rw [Int.pow_succ]⟩⟩
  · rintro s ⟨x, rfl⟩
    simp only [sSeq, sNil, sPass, sBreak, sCont, sDrop, sRet, sRetN, sIf, sSet, sSetC, sFor, sAsg, fCon, fOp, f2, fV, fE, fCell, fT, gYes, gAnd, gOr, gNot, fAnd, fOr, fNot, fIf, fNeg, fCh, fCall, fCallK, fCons, fNil, fTup, fLst, fDnew, rNil, rCons, fBlt, fRg, fAny, fLc, fSl, fO, fNoO, gNm, gPut, fM1, fBits, kEq, kNe, enOf, wipeS, unwS, List.getElem?_cons_zero, List.getElem?_cons_succ, List.set_cons_zero, List.set_cons_succ, List.append_nil, List.nil_append, List.cons_append, if_true, if_false, if_pos, Bool.false_eq_true, true_and, and_true, exists_eq_left', exists_eq_left, exists_and_left, D.int.injEq, D.str.injEq, D.lst.injEq, Option.some.injEq, exists_const, ite_true, ite_false, Bool.not_true, Bool.not_false, Bool.false_xor, Bool.true_xor, reduceIte, tyD, x_fVar, x_fv1, x_fv2, x_tl, x_td, x_fz1, x_fz2, x_fz3, x_fzS1, x_fzS2, x_vw_non, x_vw_bl, x_vw_int, x_vw_str, x_vw_lst, x_vw_tup, x_vw_dic, x_vw_raw, x_vw_loc, x_vwL, x_vw_new, x_vw_slo, x_vwS1, x_vwS2, x_isI, x_isB, x_add_i, x_add_s, x_add_l, x_add_t, x_mul_i, x_mul_s, x_mul_l, x_sub, x_mod, x_div, x_pow, x_lt_i, x_gt_i, x_le_i, x_ge_i, x_lt_s, x_gt_s, x_le_s, x_ge_s, x_in_s, x_in_ds, x_in_di, x_in_l, x_in_t, x_ix_l, x_ix_t, x_ix_s, x_ix_ds, x_ix_di, x_is, x_sl_l, x_sl_s, x_sl_t, x_len_l, x_len_t, x_len_s, x_len_d, x_list_l, x_list_t, x_sum, x_max, x_min, x_isi, x_rg1, x_rg2, x_rg3, x_wk_l, x_wk_t, x_wk_s, x_wk_d, x_enum, x_enS, x_zip, x_ziS, x_items, x_itS, x_values, x_vaS, x_rt1, x_rt2, x_rt3, x_rtS1, x_rtS2, x_set1, x_set2, x_set3, x_cell1, x_cell2, x_cell3, x_on1, x_on2, x_onS1, x_onS2, x_onL, x_put_l, x_put_ds, x_put_di, x_app, x_isL, x_mLst, x_tp, x_gs0, x_gs1, x_par2, x_par3, x_p2S, x_p3S, x_keep1, x_keep2, x_keep3, x_wR0, x_wR1, x_uR0, x_uR1, x_vws0, x_vws1, atI_0, atI_1, atI_2, atI_3, ixN_0, ixN_1, ixN_2, ixN_3, cmp_int, cmp_str, cmp_bl, eqD_int, eqD_str, eqD_bl, tT_NoneType, tT_bool, tT_int, tT_str, tT_list, tT_tuple, tT_dict, tN_int, tN_bool, tN_str, tN_list, tN_tuple, tN_dict, iT_NoneType_int, iT_NoneType_bool, iT_NoneType_str, iT_NoneType_list, iT_NoneType_tuple, iT_NoneType_dict, iT_bool_int, iT_bool_bool, iT_bool_str, iT_bool_list, iT_bool_tuple, iT_bool_dict, iT_int_int, iT_int_bool, iT_int_str, iT_int_list, iT_int_tuple, iT_int_dict, iT_str_int, iT_str_bool, iT_str_str, iT_str_list, iT_str_tuple, iT_str_dict, iT_list_int, iT_list_bool, iT_list_str, iT_list_list, iT_list_tuple, iT_list_dict, iT_tuple_int, iT_tuple_bool, iT_tuple_str, iT_tuple_list, iT_tuple_tuple, iT_tuple_dict, iT_dict_int, iT_dict_bool, iT_dict_str, iT_dict_list, iT_dict_tuple, iT_dict_dict]
    have : (upI 0 (e : Int).toNat).length = e := by rw [upI_len]; omega
    rw [this]
    exact h
theorem law_most_steps : ∀ ds S G, c_most_steps ds S G → fb_most_steps (enOf G) (startS N_most_steps ds S) := by
  rintro ds S G ⟨n, rfl, hn, h⟩
  show fb_most_steps (enOf G) ⟨[.val (.int n)], S⟩
  unfold fb_most_steps
  simp only [sSeq, sNil, sPass, sBreak, sCont, sDrop, sRet, sRetN, sIf, sSet, sSetC, sFor, sAsg, fCon, fOp, f2, fV, fE, fCell, fT, gYes, gAnd, gOr, gNot, fAnd, fOr, fNot, fIf, fNeg, fCh, fCall, fCallK, fCons, fNil, fTup, fLst, fDnew, rNil, rCons, fBlt, fRg, fAny, fLc, fSl, fO, fNoO, gNm, gPut, fM1, fBits, kEq, kNe, enOf, wipeS, unwS, List.getElem?_cons_zero, List.getElem?_cons_succ, List.set_cons_zero, List.set_cons_succ, List.append_nil, List.nil_append, List.cons_append, if_true, if_false, if_pos, Bool.false_eq_true, true_and, and_true, exists_eq_left', exists_eq_left, exists_and_left, D.int.injEq, D.str.injEq, D.lst.injEq, Option.some.injEq, exists_const, ite_true, ite_false, Bool.not_true, Bool.not_false, Bool.false_xor, Bool.true_xor, reduceIte, tyD, x_fVar, x_fv1, x_fv2, x_tl, x_td, x_fz1, x_fz2, x_fz3, x_fzS1, x_fzS2, x_vw_non, x_vw_bl, x_vw_int, x_vw_str, x_vw_lst, x_vw_tup, x_vw_dic, x_vw_raw, x_vw_loc, x_vwL, x_vw_new, x_vw_slo, x_vwS1, x_vwS2, x_isI, x_isB, x_add_i, x_add_s, x_add_l, x_add_t, x_mul_i, x_mul_s, x_mul_l, x_sub, x_mod, x_div, x_pow, x_lt_i, x_gt_i, x_le_i, x_ge_i, x_lt_s, x_gt_s, x_le_s, x_ge_s, x_in_s, x_in_ds, x_in_di, x_in_l, x_in_t, x_ix_l, x_ix_t, x_ix_s, x_ix_ds, x_ix_di, x_is, x_sl_l, x_sl_s, x_sl_t, x_len_l, x_len_t, x_len_s, x_len_d, x_list_l, x_list_t, x_sum, x_max, x_min, x_isi, x_rg1, x_rg2, x_rg3, x_wk_l, x_wk_t, x_wk_s, x_wk_d, x_enum, x_enS, x_zip, x_ziS, x_items, x_itS, x_values, x_vaS, x_rt1, x_rt2, x_rt3, x_rtS1, x_rtS2, x_set1, x_set2, x_set3, x_cell1, x_cell2, x_cell3, x_on1, x_on2, x_onS1, x_onS2, x_onL, x_put_l, x_put_ds, x_put_di, x_app, x_isL, x_mLst, x_tp, x_gs0, x_gs1, x_par2, x_par3, x_p2S, x_p3S, x_keep1, x_keep2, x_keep3, x_wR0, x_wR1, x_uR0, x_uR1, x_vws0, x_vws1, atI_0, atI_1, atI_2, atI_3, ixN_0, ixN_1, ixN_2, ixN_3, cmp_int, cmp_str, cmp_bl, eqD_int, eqD_str, eqD_bl, tT_NoneType, tT_bool, tT_int, tT_str, tT_list, tT_tuple, tT_dict, tN_int, tN_bool, tN_str, tN_list, tN_tuple, tN_dict, iT_NoneType_int, iT_NoneType_bool, iT_NoneType_str, iT_NoneType_list, iT_NoneType_tuple, iT_NoneType_dict, iT_bool_int, iT_bool_bool, iT_bool_str, iT_bool_list, iT_bool_tuple, iT_bool_dict, iT_int_int, iT_int_bool, iT_int_str, iT_int_list, iT_int_tuple, iT_int_dict, iT_str_int, iT_str_bool, iT_str_str, iT_str_list, iT_str_tuple, iT_str_dict, iT_list_int, iT_list_bool, iT_list_str, iT_list_list, iT_list_tuple, iT_list_dict, iT_tuple_int, iT_tuple_bool, iT_tuple_str, iT_tuple_list, iT_tuple_tuple, iT_tuple_dict, iT_dict_int, iT_dict_bool, iT_dict_str, iT_dict_list, iT_dict_tuple, iT_dict_dict]
  refine ⟨n, rfl, by omega, ?_⟩
  simp only [sSeq, sNil, sPass, sBreak, sCont, sDrop, sRet, sRetN, sIf, sSet, sSetC, sFor, sAsg, fCon, fOp, f2, fV, fE, fCell, fT, gYes, gAnd, gOr, gNot, fAnd, fOr, fNot, fIf, fNeg, fCh, fCall, fCallK, fCons, fNil, fTup, fLst, fDnew, rNil, rCons, fBlt, fRg, fAny, fLc, fSl, fO, fNoO, gNm, gPut, fM1, fBits, kEq, kNe, enOf, wipeS, unwS, List.getElem?_cons_zero, List.getElem?_cons_succ, List.set_cons_zero, List.set_cons_succ, List.append_nil, List.nil_append, List.cons_append, if_true, if_false, if_pos, Bool.false_eq_true, true_and, and_true, exists_eq_left', exists_eq_left, exists_and_left, D.int.injEq, D.str.injEq, D.lst.injEq, Option.some.injEq, exists_const, ite_true, ite_false, Bool.not_true, Bool.not_false, Bool.false_xor, Bool.true_xor, reduceIte, tyD, x_fVar, x_fv1, x_fv2, x_tl, x_td, x_fz1, x_fz2, x_fz3, x_fzS1, x_fzS2, x_vw_non, x_vw_bl, x_vw_int, x_vw_str, x_vw_lst, x_vw_tup, x_vw_dic, x_vw_raw, x_vw_loc, x_vwL, x_vw_new, x_vw_slo, x_vwS1, x_vwS2, x_isI, x_isB, x_add_i, x_add_s, x_add_l, x_add_t, x_mul_i, x_mul_s, x_mul_l, x_sub, x_mod, x_div, x_pow, x_lt_i, x_gt_i, x_le_i, x_ge_i, x_lt_s, x_gt_s, x_le_s, x_ge_s, x_in_s, x_in_ds, x_in_di, x_in_l, x_in_t, x_ix_l, x_ix_t, x_ix_s, x_ix_ds, x_ix_di, x_is, x_sl_l, x_sl_s, x_sl_t, x_len_l, x_len_t, x_len_s, x_len_d, x_list_l, x_list_t, x_sum, x_max, x_min, x_isi, x_rg1, x_rg2, x_rg3, x_wk_l, x_wk_t, x_wk_s, x_wk_d, x_enum, x_enS, x_zip, x_ziS, x_items, x_itS, x_values, x_vaS, x_rt1, x_rt2, x_rt3, x_rtS1, x_rtS2, x_set1, x_set2, x_set3, x_cell1, x_cell2, x_cell3, x_on1, x_on2, x_onS1, x_onS2, x_onL, x_put_l, x_put_ds, x_put_di, x_app, x_isL, x_mLst, x_tp, x_gs0, x_gs1, x_par2, x_par3, x_p2S, x_p3S, x_keep1, x_keep2, x_keep3, x_wR0, x_wR1, x_uR0, x_uR1, x_vws0, x_vws1, atI_0, atI_1, atI_2, atI_3, ixN_0, ixN_1, ixN_2, ixN_3, cmp_int, cmp_str, cmp_bl, eqD_int, eqD_str, eqD_bl, tT_NoneType, tT_bool, tT_int, tT_str, tT_list, tT_tuple, tT_dict, tN_int, tN_bool, tN_str, tN_list, tN_tuple, tN_dict, iT_NoneType_int, iT_NoneType_bool, iT_NoneType_str, iT_NoneType_list, iT_NoneType_tuple, iT_NoneType_dict, iT_bool_int, iT_bool_bool, iT_bool_str, iT_bool_list, iT_bool_tuple, iT_bool_dict, iT_int_int, iT_int_bool, iT_int_str, iT_int_list, iT_int_tuple, iT_int_dict, iT_str_int, iT_str_bool, iT_str_str, iT_str_list, iT_str_tuple, iT_str_dict, iT_list_int, iT_list_bool, iT_list_str, iT_list_list, iT_list_tuple, iT_list_dict, iT_tuple_int, iT_tuple_bool, iT_tuple_str, iT_tuple_list, iT_tuple_tuple, iT_tuple_dict, iT_dict_int, iT_dict_bool, iT_dict_str, iT_dict_list, iT_dict_tuple, iT_dict_dict]
  by_cases q : (n : Int) = 1
  · rw [if_neg (by simp [q])]
    exact h 0 (by rw [if_neg (by omega)])
  · rw [if_pos (by simp [q])]
    exact ⟨divok (by decide) (by decide), h _ (by rw [if_pos (by omega)])⟩
theorem law__law_mixed : ∀ ds S G, c__law_mixed ds S G → fb__law_mixed (enOf G) (startS N__law_mixed ds S) := by
  rintro ds S G ⟨a, z, i, rfl, h1, h2, h3, h4, h5, h6, h⟩
  show fb__law_mixed (enOf G) ⟨[.val (.int a), .val (.int z), .val (.int i), .no], S⟩
  unfold fb__law_mixed
  simp only [sSeq, sNil, sPass, sBreak, sCont, sDrop, sRet, sRetN, sIf, sSet, sSetC, sFor, sAsg, fCon, fOp, f2, fV, fE, fCell, fT, gYes, gAnd, gOr, gNot, fAnd, fOr, fNot, fIf, fNeg, fCh, fCall, fCallK, fCons, fNil, fTup, fLst, fDnew, rNil, rCons, fBlt, fRg, fAny, fLc, fSl, fO, fNoO, gNm, gPut, fM1, fBits, kEq, kNe, enOf, wipeS, unwS, List.getElem?_cons_zero, List.getElem?_cons_succ, List.set_cons_zero, List.set_cons_succ, List.append_nil, List.nil_append, List.cons_append, if_true, if_false, if_pos, Bool.false_eq_true, true_and, and_true, exists_eq_left', exists_eq_left, exists_and_left, D.int.injEq, D.str.injEq, D.lst.injEq, Option.some.injEq, exists_const, ite_true, ite_false, Bool.not_true, Bool.not_false, Bool.false_xor, Bool.true_xor, reduceIte, tyD, x_fVar, x_fv1, x_fv2, x_tl, x_td, x_fz1, x_fz2, x_fz3, x_fzS1, x_fzS2, x_vw_non, x_vw_bl, x_vw_int, x_vw_str, x_vw_lst, x_vw_tup, x_vw_dic, x_vw_raw, x_vw_loc, x_vwL, x_vw_new, x_vw_slo, x_vwS1, x_vwS2, x_isI, x_isB, x_add_i, x_add_s, x_add_l, x_add_t, x_mul_i, x_mul_s, x_mul_l, x_sub, x_mod, x_div, x_pow, x_lt_i, x_gt_i, x_le_i, x_ge_i, x_lt_s, x_gt_s, x_le_s, x_ge_s, x_in_s, x_in_ds, x_in_di, x_in_l, x_in_t, x_ix_l, x_ix_t, x_ix_s, x_ix_ds, x_ix_di, x_is, x_sl_l, x_sl_s, x_sl_t, x_len_l, x_len_t, x_len_s, x_len_d, x_list_l, x_list_t, x_sum, x_max, x_min, x_isi, x_rg1, x_rg2, x_rg3, x_wk_l, x_wk_t, x_wk_s, x_wk_d, x_enum, x_enS, x_zip, x_ziS, x_items, x_itS, x_values, x_vaS, x_rt1, x_rt2, x_rt3, x_rtS1, x_rtS2, x_set1, x_set2, x_set3, x_cell1, x_cell2, x_cell3, x_on1, x_on2, x_onS1, x_onS2, x_onL, x_put_l, x_put_ds, x_put_di, x_app, x_isL, x_mLst, x_tp, x_gs0, x_gs1, x_par2, x_par3, x_p2S, x_p3S, x_keep1, x_keep2, x_keep3, x_wR0, x_wR1, x_uR0, x_uR1, x_vws0, x_vws1, atI_0, atI_1, atI_2, atI_3, ixN_0, ixN_1, ixN_2, ixN_3, cmp_int, cmp_str, cmp_bl, eqD_int, eqD_str, eqD_bl, tT_NoneType, tT_bool, tT_int, tT_str, tT_list, tT_tuple, tT_dict, tN_int, tN_bool, tN_str, tN_list, tN_tuple, tN_dict, iT_NoneType_int, iT_NoneType_bool, iT_NoneType_str, iT_NoneType_list, iT_NoneType_tuple, iT_NoneType_dict, iT_bool_int, iT_bool_bool, iT_bool_str, iT_bool_list, iT_bool_tuple, iT_bool_dict, iT_int_int, iT_int_bool, iT_int_str, iT_int_list, iT_int_tuple, iT_int_dict, iT_str_int, iT_str_bool, iT_str_str, iT_str_list, iT_str_tuple, iT_str_dict, iT_list_int, iT_list_bool, iT_list_str, iT_list_list, iT_list_tuple, iT_list_dict, iT_tuple_int, iT_tuple_bool, iT_tuple_str, iT_tuple_list, iT_tuple_tuple, iT_tuple_dict, iT_dict_int, iT_dict_bool, iT_dict_str, iT_dict_list, iT_dict_tuple, iT_dict_dict]
  have g1 : 0 ≤ (a * 69069 + 104729 * z * z + 7919 * i + z) % 2147483647 := Int.emod_nonneg _ (by decide)
  have g2 : (a * 69069 + 104729 * z * z + 7919 * i + z) % 2147483647 < 2147483647 := Int.emod_lt_of_pos _ (by decide)
  refine ⟨mulok (.inr (by decide)), mulok (.inl (by decide)), mulok (.inr (by omega)), mulok (.inl (by decide)), by decide, mulok (.inr (by omega)), by decide, mulok (.inr (by decide)), by decide, h _ (Int.emod_nonneg _ (by decide)) ?_⟩
  exact Int.lt_trans (Int.emod_lt_of_pos _ (by decide)) (by decide)
theorem law__law_purse : ∀ ds S G, c__law_purse ds S G → fb__law_purse (enOf G) (startS N__law_purse ds S) := by
  rintro ds S G ⟨ns, i, rfl, hl, hi, h⟩
  show fb__law_purse (enOf G) ⟨[.val (.lst (ns.map D.int)), .val (.int i), .no], S⟩
  unfold fb__law_purse
  simp only [sSeq, sNil, sPass, sBreak, sCont, sDrop, sRet, sRetN, sIf, sSet, sSetC, sFor, sAsg, fCon, fOp, f2, fV, fE, fCell, fT, gYes, gAnd, gOr, gNot, fAnd, fOr, fNot, fIf, fNeg, fCh, fCall, fCallK, fCons, fNil, fTup, fLst, fDnew, rNil, rCons, fBlt, fRg, fAny, fLc, fSl, fO, fNoO, gNm, gPut, fM1, fBits, kEq, kNe, enOf, wipeS, unwS, List.getElem?_cons_zero, List.getElem?_cons_succ, List.set_cons_zero, List.set_cons_succ, List.append_nil, List.nil_append, List.cons_append, if_true, if_false, if_pos, Bool.false_eq_true, true_and, and_true, exists_eq_left', exists_eq_left, exists_and_left, D.int.injEq, D.str.injEq, D.lst.injEq, Option.some.injEq, exists_const, ite_true, ite_false, Bool.not_true, Bool.not_false, Bool.false_xor, Bool.true_xor, reduceIte, tyD, x_fVar, x_fv1, x_fv2, x_tl, x_td, x_fz1, x_fz2, x_fz3, x_fzS1, x_fzS2, x_vw_non, x_vw_bl, x_vw_int, x_vw_str, x_vw_lst, x_vw_tup, x_vw_dic, x_vw_raw, x_vw_loc, x_vwL, x_vw_new, x_vw_slo, x_vwS1, x_vwS2, x_isI, x_isB, x_add_i, x_add_s, x_add_l, x_add_t, x_mul_i, x_mul_s, x_mul_l, x_sub, x_mod, x_div, x_pow, x_lt_i, x_gt_i, x_le_i, x_ge_i, x_lt_s, x_gt_s, x_le_s, x_ge_s, x_in_s, x_in_ds, x_in_di, x_in_l, x_in_t, x_ix_l, x_ix_t, x_ix_s, x_ix_ds, x_ix_di, x_is, x_sl_l, x_sl_s, x_sl_t, x_len_l, x_len_t, x_len_s, x_len_d, x_list_l, x_list_t, x_sum, x_max, x_min, x_isi, x_rg1, x_rg2, x_rg3, x_wk_l, x_wk_t, x_wk_s, x_wk_d, x_enum, x_enS, x_zip, x_ziS, x_items, x_itS, x_values, x_vaS, x_rt1, x_rt2, x_rt3, x_rtS1, x_rtS2, x_set1, x_set2, x_set3, x_cell1, x_cell2, x_cell3, x_on1, x_on2, x_onS1, x_onS2, x_onL, x_put_l, x_put_ds, x_put_di, x_app, x_isL, x_mLst, x_tp, x_gs0, x_gs1, x_par2, x_par3, x_p2S, x_p3S, x_keep1, x_keep2, x_keep3, x_wR0, x_wR1, x_uR0, x_uR1, x_vws0, x_vws1, atI_0, atI_1, atI_2, atI_3, ixN_0, ixN_1, ixN_2, ixN_3, cmp_int, cmp_str, cmp_bl, eqD_int, eqD_str, eqD_bl, tT_NoneType, tT_bool, tT_int, tT_str, tT_list, tT_tuple, tT_dict, tN_int, tN_bool, tN_str, tN_list, tN_tuple, tN_dict, iT_NoneType_int, iT_NoneType_bool, iT_NoneType_str, iT_NoneType_list, iT_NoneType_tuple, iT_NoneType_dict, iT_bool_int, iT_bool_bool, iT_bool_str, iT_bool_list, iT_bool_tuple, iT_bool_dict, iT_int_int, iT_int_bool, iT_int_str, iT_int_list, iT_int_tuple, iT_int_dict, iT_str_int, iT_str_bool, iT_str_str, iT_str_list, iT_str_tuple, iT_str_dict, iT_list_int, iT_list_bool, iT_list_str, iT_list_list, iT_list_tuple, iT_list_dict, iT_tuple_int, iT_tuple_bool, iT_tuple_str, iT_tuple_list, iT_tuple_tuple, iT_tuple_dict, iT_dict_int, iT_dict_bool, iT_dict_str, iT_dict_list, iT_dict_tuple, iT_dict_dict]
  rw [cut_map]
  refine ⟨_, ints_map _, by decide +kernel, by decide +kernel, by decide +kernel, by decide +kernel, by decide, by rw [szl]; simp, h _ ⟨_, _, _, _, rfl, Int.emod_nonneg _ (by decide +kernel), ?_, Int.emod_nonneg _ (by decide), Int.lt_trans (Int.emod_lt_of_pos _ (by decide)) (by decide), by decide, by decide, by omega, by omega⟩⟩
  exact Int.lt_of_lt_of_le (Int.emod_lt_of_pos _ (by decide +kernel)) (by decide +kernel)
theorem law__law_draw : ∀ ds S G, c__law_draw ds S G → fb__law_draw (enOf G) (startS N__law_draw ds S) := by
  rintro ds S G ⟨n, m, c, k, rfl, hc, ⟨a, b, z, i, rfl, p1, p2, p3, p4, p5, p6, p7, p8⟩, hk, h1, h2, h⟩
  have hn : n < S.length := (List.getElem?_eq_some_iff.mp hc).1
  have hs : ∀ c : C, (S.set n c)[n]? = some c := fun c => List.getElem?_set_self hn
  show fb__law_draw (enOf G) ⟨[.val (.loc n), .val (.int m), .no, .no, .no], S⟩
  unfold fb__law_draw
  simp only [sSeq, sNil, sPass, sBreak, sCont, sDrop, sRet, sRetN, sIf, sSet, sSetC, sFor, sAsg, fCon, fOp, f2, fV, fE, fCell, fT, gYes, gAnd, gOr, gNot, fAnd, fOr, fNot, fIf, fNeg, fCh, fCall, fCallK, fCons, fNil, fTup, fLst, fDnew, rNil, rCons, fBlt, fRg, fAny, fLc, fSl, fO, fNoO, gNm, gPut, fM1, fBits, kEq, kNe, enOf, wipeS, unwS, List.getElem?_cons_zero, List.getElem?_cons_succ, List.set_cons_zero, List.set_cons_succ, List.append_nil, List.nil_append, List.cons_append, if_true, if_false, if_pos, Bool.false_eq_true, true_and, and_true, exists_eq_left', exists_eq_left, exists_and_left, D.int.injEq, D.str.injEq, D.lst.injEq, Option.some.injEq, exists_const, ite_true, ite_false, Bool.not_true, Bool.not_false, Bool.false_xor, Bool.true_xor, reduceIte, tyD, x_fVar, x_fv1, x_fv2, x_tl, x_td, x_fz1, x_fz2, x_fz3, x_fzS1, x_fzS2, x_vw_non, x_vw_bl, x_vw_int, x_vw_str, x_vw_lst, x_vw_tup, x_vw_dic, x_vw_raw, x_vw_loc, x_vwL, x_vw_new, x_vw_slo, x_vwS1, x_vwS2, x_isI, x_isB, x_add_i, x_add_s, x_add_l, x_add_t, x_mul_i, x_mul_s, x_mul_l, x_sub, x_mod, x_div, x_pow, x_lt_i, x_gt_i, x_le_i, x_ge_i, x_lt_s, x_gt_s, x_le_s, x_ge_s, x_in_s, x_in_ds, x_in_di, x_in_l, x_in_t, x_ix_l, x_ix_t, x_ix_s, x_ix_ds, x_ix_di, x_is, x_sl_l, x_sl_s, x_sl_t, x_len_l, x_len_t, x_len_s, x_len_d, x_list_l, x_list_t, x_sum, x_max, x_min, x_isi, x_rg1, x_rg2, x_rg3, x_wk_l, x_wk_t, x_wk_s, x_wk_d, x_enum, x_enS, x_zip, x_ziS, x_items, x_itS, x_values, x_vaS, x_rt1, x_rt2, x_rt3, x_rtS1, x_rtS2, x_set1, x_set2, x_set3, x_cell1, x_cell2, x_cell3, x_on1, x_on2, x_onS1, x_onS2, x_onL, x_put_l, x_put_ds, x_put_di, x_app, x_isL, x_mLst, x_tp, x_gs0, x_gs1, x_par2, x_par3, x_p2S, x_p3S, x_keep1, x_keep2, x_keep3, x_wR0, x_wR1, x_uR0, x_uR1, x_vws0, x_vws1, atI_0, atI_1, atI_2, atI_3, ixN_0, ixN_1, ixN_2, ixN_3, cmp_int, cmp_str, cmp_bl, eqD_int, eqD_str, eqD_bl, tT_NoneType, tT_bool, tT_int, tT_str, tT_list, tT_tuple, tT_dict, tN_int, tN_bool, tN_str, tN_list, tN_tuple, tN_dict, iT_NoneType_int, iT_NoneType_bool, iT_NoneType_str, iT_NoneType_list, iT_NoneType_tuple, iT_NoneType_dict, iT_bool_int, iT_bool_bool, iT_bool_str, iT_bool_list, iT_bool_tuple, iT_bool_dict, iT_int_int, iT_int_bool, iT_int_str, iT_int_list, iT_int_tuple, iT_int_dict, iT_str_int, iT_str_bool, iT_str_str, iT_str_list, iT_str_tuple, iT_str_dict, iT_list_int, iT_list_bool, iT_list_str, iT_list_list, iT_list_tuple, iT_list_dict, iT_tuple_int, iT_tuple_bool, iT_tuple_str, iT_tuple_list, iT_tuple_tuple, iT_tuple_dict, iT_dict_int, iT_dict_bool, iT_dict_str, iT_dict_list, iT_dict_tuple, iT_dict_dict, hc]
  by_cases q : 0 < a
  · rw [if_pos (decide_eq_true q)]
    refine ⟨h1, divok h1 (by omega), h _ _ (Int.emod_nonneg _ (by omega)) (Int.emod_lt_of_pos _ h1) ⟨_, _, _, _, rfl, Int.ediv_nonneg p1 (by omega), ?_, p3, p4, p5, by omega, p7, p8⟩⟩
    exact Int.lt_of_le_of_lt (Int.ediv_le_self _ p1) p2
  · rw [if_neg (by simpa using q)]
    have hb : Builtin.Int.intBits m ≤ 64 := bits_le (by omega)
    refine ⟨divok (by decide) (by decide), ⟨by omega, by omega⟩, ?_⟩
    refine loop_inv (fun j s => ∃ f x, s = ⟨[.val (.loc n), .val (.int m), .val (.int f), x, .no], S.set n (.lst [.int a, .int b, .int (z + j), .int i])⟩) ⟨0, .no, by
      rw [show z + ((0 : Nat) : Int) = z by omega]
      congr 1
      exact (set_self hc).symm⟩ ?_ ?_
    · rintro j s d hd ⟨f, x, rfl⟩ P hP
      have hj : j < 3 := by
        have := (upI_at hd).1
        omega
      simp only [sSeq, sNil, sPass, sBreak, sCont, sDrop, sRet, sRetN, sIf, sSet, sSetC, sFor, sAsg, fCon, fOp, f2, fV, fE, fCell, fT, gYes, gAnd, gOr, gNot, fAnd, fOr, fNot, fIf, fNeg, fCh, fCall, fCallK, fCons, fNil, fTup, fLst, fDnew, rNil, rCons, fBlt, fRg, fAny, fLc, fSl, fO, fNoO, gNm, gPut, fM1, fBits, kEq, kNe, enOf, wipeS, unwS, List.getElem?_cons_zero, List.getElem?_cons_succ, List.set_cons_zero, List.set_cons_succ, List.append_nil, List.nil_append, List.cons_append, if_true, if_false, if_pos, Bool.false_eq_true, true_and, and_true, exists_eq_left', exists_eq_left, exists_and_left, D.int.injEq, D.str.injEq, D.lst.injEq, Option.some.injEq, exists_const, ite_true, ite_false, Bool.not_true, Bool.not_false, Bool.false_xor, Bool.true_xor, reduceIte, tyD, x_fVar, x_fv1, x_fv2, x_tl, x_td, x_fz1, x_fz2, x_fz3, x_fzS1, x_fzS2, x_vw_non, x_vw_bl, x_vw_int, x_vw_str, x_vw_lst, x_vw_tup, x_vw_dic, x_vw_raw, x_vw_loc, x_vwL, x_vw_new, x_vw_slo, x_vwS1, x_vwS2, x_isI, x_isB, x_add_i, x_add_s, x_add_l, x_add_t, x_mul_i, x_mul_s, x_mul_l, x_sub, x_mod, x_div, x_pow, x_lt_i, x_gt_i, x_le_i, x_ge_i, x_lt_s, x_gt_s, x_le_s, x_ge_s, x_in_s, x_in_ds, x_in_di, x_in_l, x_in_t, x_ix_l, x_ix_t, x_ix_s, x_ix_ds, x_ix_di, x_is, x_sl_l, x_sl_s, x_sl_t, x_len_l, x_len_t, x_len_s, x_len_d, x_list_l, x_list_t, x_sum, x_max, x_min, x_isi, x_rg1, x_rg2, x_rg3, x_wk_l, x_wk_t, x_wk_s, x_wk_d, x_enum, x_enS, x_zip, x_ziS, x_items, x_itS, x_values, x_vaS, x_rt1, x_rt2, x_rt3, x_rtS1, x_rtS2, x_set1, x_set2, x_set3, x_cell1, x_cell2, x_cell3, x_on1, x_on2, x_onS1, x_onS2, x_onL, x_put_l, x_put_ds, x_put_di, x_app, x_isL, x_mLst, x_tp, x_gs0, x_gs1, x_par2, x_par3, x_p2S, x_p3S, x_keep1, x_keep2, x_keep3, x_wR0, x_wR1, x_uR0, x_uR1, x_vws0, x_vws1, atI_0, atI_1, atI_2, atI_3, ixN_0, ixN_1, ixN_2, ixN_3, cmp_int, cmp_str, cmp_bl, eqD_int, eqD_str, eqD_bl, tT_NoneType, tT_bool, tT_int, tT_str, tT_list, tT_tuple, tT_dict, tN_int, tN_bool, tN_str, tN_list, tN_tuple, tN_dict, iT_NoneType_int, iT_NoneType_bool, iT_NoneType_str, iT_NoneType_list, iT_NoneType_tuple, iT_NoneType_dict, iT_bool_int, iT_bool_bool, iT_bool_str, iT_bool_list, iT_bool_tuple, iT_bool_dict, iT_int_int, iT_int_bool, iT_int_str, iT_int_list, iT_int_tuple, iT_int_dict, iT_str_int, iT_str_bool, iT_str_str, iT_str_list, iT_str_tuple, iT_str_dict, iT_list_int, iT_list_bool, iT_list_str, iT_list_list, iT_list_tuple, iT_list_dict, iT_tuple_int, iT_tuple_bool, iT_tuple_str, iT_tuple_list, iT_tuple_tuple, iT_tuple_dict, iT_dict_int, iT_dict_bool, iT_dict_str, iT_dict_list, iT_dict_tuple, iT_dict_dict, hs, List.set_set]
      refine ⟨mulok (.inr (by decide)), b, z + j + 1, i, rfl, p3, p4, by omega, by omega, p7, p8, fun r r1 r2 => ?_⟩
      simp only [sSeq, sNil, sPass, sBreak, sCont, sDrop, sRet, sRetN, sIf, sSet, sSetC, sFor, sAsg, fCon, fOp, f2, fV, fE, fCell, fT, gYes, gAnd, gOr, gNot, fAnd, fOr, fNot, fIf, fNeg, fCh, fCall, fCallK, fCons, fNil, fTup, fLst, fDnew, rNil, rCons, fBlt, fRg, fAny, fLc, fSl, fO, fNoO, gNm, gPut, fM1, fBits, kEq, kNe, enOf, wipeS, unwS, List.getElem?_cons_zero, List.getElem?_cons_succ, List.set_cons_zero, List.set_cons_succ, List.append_nil, List.nil_append, List.cons_append, if_true, if_false, if_pos, Bool.false_eq_true, true_and, and_true, exists_eq_left', exists_eq_left, exists_and_left, D.int.injEq, D.str.injEq, D.lst.injEq, Option.some.injEq, exists_const, ite_true, ite_false, Bool.not_true, Bool.not_false, Bool.false_xor, Bool.true_xor, reduceIte, tyD, x_fVar, x_fv1, x_fv2, x_tl, x_td, x_fz1, x_fz2, x_fz3, x_fzS1, x_fzS2, x_vw_non, x_vw_bl, x_vw_int, x_vw_str, x_vw_lst, x_vw_tup, x_vw_dic, x_vw_raw, x_vw_loc, x_vwL, x_vw_new, x_vw_slo, x_vwS1, x_vwS2, x_isI, x_isB, x_add_i, x_add_s, x_add_l, x_add_t, x_mul_i, x_mul_s, x_mul_l, x_sub, x_mod, x_div, x_pow, x_lt_i, x_gt_i, x_le_i, x_ge_i, x_lt_s, x_gt_s, x_le_s, x_ge_s, x_in_s, x_in_ds, x_in_di, x_in_l, x_in_t, x_ix_l, x_ix_t, x_ix_s, x_ix_ds, x_ix_di, x_is, x_sl_l, x_sl_s, x_sl_t, x_len_l, x_len_t, x_len_s, x_len_d, x_list_l, x_list_t, x_sum, x_max, x_min, x_isi, x_rg1, x_rg2, x_rg3, x_wk_l, x_wk_t, x_wk_s, x_wk_d, x_enum, x_enS, x_zip, x_ziS, x_items, x_itS, x_values, x_vaS, x_rt1, x_rt2, x_rt3, x_rtS1, x_rtS2, x_set1, x_set2, x_set3, x_cell1, x_cell2, x_cell3, x_on1, x_on2, x_onS1, x_onS2, x_onL, x_put_l, x_put_ds, x_put_di, x_app, x_isL, x_mLst, x_tp, x_gs0, x_gs1, x_par2, x_par3, x_p2S, x_p3S, x_keep1, x_keep2, x_keep3, x_wR0, x_wR1, x_uR0, x_uR1, x_vws0, x_vws1, atI_0, atI_1, atI_2, atI_3, ixN_0, ixN_1, ixN_2, ixN_3, cmp_int, cmp_str, cmp_bl, eqD_int, eqD_str, eqD_bl, tT_NoneType, tT_bool, tT_int, tT_str, tT_list, tT_tuple, tT_dict, tN_int, tN_bool, tN_str, tN_list, tN_tuple, tN_dict, iT_NoneType_int, iT_NoneType_bool, iT_NoneType_str, iT_NoneType_list, iT_NoneType_tuple, iT_NoneType_dict, iT_bool_int, iT_bool_bool, iT_bool_str, iT_bool_list, iT_bool_tuple, iT_bool_dict, iT_int_int, iT_int_bool, iT_int_str, iT_int_list, iT_int_tuple, iT_int_dict, iT_str_int, iT_str_bool, iT_str_str, iT_str_list, iT_str_tuple, iT_str_dict, iT_list_int, iT_list_bool, iT_list_str, iT_list_list, iT_list_tuple, iT_list_dict, iT_tuple_int, iT_tuple_bool, iT_tuple_str, iT_tuple_list, iT_tuple_tuple, iT_tuple_dict, iT_dict_int, iT_dict_bool, iT_dict_str, iT_dict_list, iT_dict_tuple, iT_dict_dict]
      exact hP _ ⟨_, _, by rw [show z + ((j + 1 : Nat) : Int) = z + j + 1 by omega]⟩
    · rintro s ⟨f, x, rfl⟩
      simp only [sSeq, sNil, sPass, sBreak, sCont, sDrop, sRet, sRetN, sIf, sSet, sSetC, sFor, sAsg, fCon, fOp, f2, fV, fE, fCell, fT, gYes, gAnd, gOr, gNot, fAnd, fOr, fNot, fIf, fNeg, fCh, fCall, fCallK, fCons, fNil, fTup, fLst, fDnew, rNil, rCons, fBlt, fRg, fAny, fLc, fSl, fO, fNoO, gNm, gPut, fM1, fBits, kEq, kNe, enOf, wipeS, unwS, List.getElem?_cons_zero, List.getElem?_cons_succ, List.set_cons_zero, List.set_cons_succ, List.append_nil, List.nil_append, List.cons_append, if_true, if_false, if_pos, Bool.false_eq_true, true_and, and_true, exists_eq_left', exists_eq_left, exists_and_left, D.int.injEq, D.str.injEq, D.lst.injEq, Option.some.injEq, exists_const, ite_true, ite_false, Bool.not_true, Bool.not_false, Bool.false_xor, Bool.true_xor, reduceIte, tyD, x_fVar, x_fv1, x_fv2, x_tl, x_td, x_fz1, x_fz2, x_fz3, x_fzS1, x_fzS2, x_vw_non, x_vw_bl, x_vw_int, x_vw_str, x_vw_lst, x_vw_tup, x_vw_dic, x_vw_raw, x_vw_loc, x_vwL, x_vw_new, x_vw_slo, x_vwS1, x_vwS2, x_isI, x_isB, x_add_i, x_add_s, x_add_l, x_add_t, x_mul_i, x_mul_s, x_mul_l, x_sub, x_mod, x_div, x_pow, x_lt_i, x_gt_i, x_le_i, x_ge_i, x_lt_s, x_gt_s, x_le_s, x_ge_s, x_in_s, x_in_ds, x_in_di, x_in_l, x_in_t, x_ix_l, x_ix_t, x_ix_s, x_ix_ds, x_ix_di, x_is, x_sl_l, x_sl_s, x_sl_t, x_len_l, x_len_t, x_len_s, x_len_d, x_list_l, x_list_t, x_sum, x_max, x_min, x_isi, x_rg1, x_rg2, x_rg3, x_wk_l, x_wk_t, x_wk_s, x_wk_d, x_enum, x_enS, x_zip, x_ziS, x_items, x_itS, x_values, x_vaS, x_rt1, x_rt2, x_rt3, x_rtS1, x_rtS2, x_set1, x_set2, x_set3, x_cell1, x_cell2, x_cell3, x_on1, x_on2, x_onS1, x_onS2, x_onL, x_put_l, x_put_ds, x_put_di, x_app, x_isL, x_mLst, x_tp, x_gs0, x_gs1, x_par2, x_par3, x_p2S, x_p3S, x_keep1, x_keep2, x_keep3, x_wR0, x_wR1, x_uR0, x_uR1, x_vws0, x_vws1, atI_0, atI_1, atI_2, atI_3, ixN_0, ixN_1, ixN_2, ixN_3, cmp_int, cmp_str, cmp_bl, eqD_int, eqD_str, eqD_bl, tT_NoneType, tT_bool, tT_int, tT_str, tT_list, tT_tuple, tT_dict, tN_int, tN_bool, tN_str, tN_list, tN_tuple, tN_dict, iT_NoneType_int, iT_NoneType_bool, iT_NoneType_str, iT_NoneType_list, iT_NoneType_tuple, iT_NoneType_dict, iT_bool_int, iT_bool_bool, iT_bool_str, iT_bool_list, iT_bool_tuple, iT_bool_dict, iT_int_int, iT_int_bool, iT_int_str, iT_int_list, iT_int_tuple, iT_int_dict, iT_str_int, iT_str_bool, iT_str_str, iT_str_list, iT_str_tuple, iT_str_dict, iT_list_int, iT_list_bool, iT_list_str, iT_list_list, iT_list_tuple, iT_list_dict, iT_tuple_int, iT_tuple_bool, iT_tuple_str, iT_tuple_list, iT_tuple_tuple, iT_tuple_dict, iT_dict_int, iT_dict_bool, iT_dict_str, iT_dict_list, iT_dict_tuple, iT_dict_dict]
      refine ⟨h1, h _ _ (Int.emod_nonneg _ (by omega)) (Int.emod_lt_of_pos _ h1) ⟨_, _, _, _, rfl, p1, p2, p3, p4, by omega, ?_, p7, p8⟩⟩
      rw [upI_len]
      omega
theorem law__law_purses : ∀ ds S G, c__law_purses ds S G → fb__law_purses (enOf G) (startS N__law_purses ds S) := by
  rintro ds S G ⟨ns, few, rfl, hl, hf, rfl, h⟩
  show fb__law_purses (enOf G) ⟨[.val (.lst (ns.map D.int)), .val (.int few), .no], []⟩
  unfold fb__law_purses
  simp only [sSeq, sNil, sPass, sBreak, sCont, sDrop, sRet, sRetN, sIf, sSet, sSetC, sFor, sAsg, fCon, fOp, f2, fV, fE, fCell, fT, gYes, gAnd, gOr, gNot, fAnd, fOr, fNot, fIf, fNeg, fCh, fCall, fCallK, fCons, fNil, fTup, fLst, fDnew, rNil, rCons, fBlt, fRg, fAny, fLc, fSl, fO, fNoO, gNm, gPut, fM1, fBits, kEq, kNe, enOf, wipeS, unwS, List.getElem?_cons_zero, List.getElem?_cons_succ, List.set_cons_zero, List.set_cons_succ, List.append_nil, List.nil_append, List.cons_append, if_true, if_false, if_pos, Bool.false_eq_true, true_and, and_true, exists_eq_left', exists_eq_left, exists_and_left, D.int.injEq, D.str.injEq, D.lst.injEq, Option.some.injEq, exists_const, ite_true, ite_false, Bool.not_true, Bool.not_false, Bool.false_xor, Bool.true_xor, reduceIte, tyD, x_fVar, x_fv1, x_fv2, x_tl, x_td, x_fz1, x_fz2, x_fz3, x_fzS1, x_fzS2, x_vw_non, x_vw_bl, x_vw_int, x_vw_str, x_vw_lst, x_vw_tup, x_vw_dic, x_vw_raw, x_vw_loc, x_vwL, x_vw_new, x_vw_slo, x_vwS1, x_vwS2, x_isI, x_isB, x_add_i, x_add_s, x_add_l, x_add_t, x_mul_i, x_mul_s, x_mul_l, x_sub, x_mod, x_div, x_pow, x_lt_i, x_gt_i, x_le_i, x_ge_i, x_lt_s, x_gt_s, x_le_s, x_ge_s, x_in_s, x_in_ds, x_in_di, x_in_l, x_in_t, x_ix_l, x_ix_t, x_ix_s, x_ix_ds, x_ix_di, x_is, x_sl_l, x_sl_s, x_sl_t, x_len_l, x_len_t, x_len_s, x_len_d, x_list_l, x_list_t, x_sum, x_max, x_min, x_isi, x_rg1, x_rg2, x_rg3, x_wk_l, x_wk_t, x_wk_s, x_wk_d, x_enum, x_enS, x_zip, x_ziS, x_items, x_itS, x_values, x_vaS, x_rt1, x_rt2, x_rt3, x_rtS1, x_rtS2, x_set1, x_set2, x_set3, x_cell1, x_cell2, x_cell3, x_on1, x_on2, x_onS1, x_onS2, x_onL, x_put_l, x_put_ds, x_put_di, x_app, x_isL, x_mLst, x_tp, x_gs0, x_gs1, x_par2, x_par3, x_p2S, x_p3S, x_keep1, x_keep2, x_keep3, x_wR0, x_wR1, x_uR0, x_uR1, x_vws0, x_vws1, atI_0, atI_1, atI_2, atI_3, ixN_0, ixN_1, ixN_2, ixN_3, cmp_int, cmp_str, cmp_bl, eqD_int, eqD_str, eqD_bl, tT_NoneType, tT_bool, tT_int, tT_str, tT_list, tT_tuple, tT_dict, tN_int, tN_bool, tN_str, tN_list, tN_tuple, tN_dict, iT_NoneType_int, iT_NoneType_bool, iT_NoneType_str, iT_NoneType_list, iT_NoneType_tuple, iT_NoneType_dict, iT_bool_int, iT_bool_bool, iT_bool_str, iT_bool_list, iT_bool_tuple, iT_bool_dict, iT_int_int, iT_int_bool, iT_int_str, iT_int_list, iT_int_tuple, iT_int_dict, iT_str_int, iT_str_bool, iT_str_str, iT_str_list, iT_str_tuple, iT_str_dict, iT_list_int, iT_list_bool, iT_list_str, iT_list_list, iT_list_tuple, iT_list_dict, iT_tuple_int, iT_tuple_bool, iT_tuple_str, iT_tuple_list, iT_tuple_tuple, iT_tuple_dict, iT_dict_int, iT_dict_bool, iT_dict_str, iT_dict_list, iT_dict_tuple, iT_dict_dict, List.length_map]
  generalize hm : (if (if (ns.length : Int) < (few : Int) then (ns.length : Int) else (few : Int)) > 1 then if (ns.length : Int) < (few : Int) then (ns.length : Int) else (few : Int) else 1) = m
  have hm1 : 0 ≤ m ∧ m ≤ 63 := by
    subst hm
    repeat' split
    all_goals omega
  refine ⟨small62_of (by omega) (by omega), ?_⟩
  refine comp_inv (fun j acc s => ∃ cs : List C, (∀ c ∈ cs, Purse c 0) ∧ cs.length = j ∧ acc = (List.range j).map D.loc ∧ s = ⟨[.val (.lst (ns.map D.int)), .val (.int few), .no], cs⟩) ⟨[], by simp, rfl, rfl, rfl⟩ (by rw [upI_len, szl]; omega) ?_ ?_
  · rintro j d acc s hd ⟨cs, h1, h2, rfl, rfl⟩ P h0 hP
    obtain ⟨hj, rfl⟩ := upI_at hd
    simp only [sSeq, sNil, sPass, sBreak, sCont, sDrop, sRet, sRetN, sIf, sSet, sSetC, sFor, sAsg, fCon, fOp, f2, fV, fE, fCell, fT, gYes, gAnd, gOr, gNot, fAnd, fOr, fNot, fIf, fNeg, fCh, fCall, fCallK, fCons, fNil, fTup, fLst, fDnew, rNil, rCons, fBlt, fRg, fAny, fLc, fSl, fO, fNoO, gNm, gPut, fM1, fBits, kEq, kNe, enOf, wipeS, unwS, List.getElem?_cons_zero, List.getElem?_cons_succ, List.set_cons_zero, List.set_cons_succ, List.append_nil, List.nil_append, List.cons_append, if_true, if_false, if_pos, Bool.false_eq_true, true_and, and_true, exists_eq_left', exists_eq_left, exists_and_left, D.int.injEq, D.str.injEq, D.lst.injEq, Option.some.injEq, exists_const, ite_true, ite_false, Bool.not_true, Bool.not_false, Bool.false_xor, Bool.true_xor, reduceIte, tyD, x_fVar, x_fv1, x_fv2, x_tl, x_td, x_fz1, x_fz2, x_fz3, x_fzS1, x_fzS2, x_vw_non, x_vw_bl, x_vw_int, x_vw_str, x_vw_lst, x_vw_tup, x_vw_dic, x_vw_raw, x_vw_loc, x_vwL, x_vw_new, x_vw_slo, x_vwS1, x_vwS2, x_isI, x_isB, x_add_i, x_add_s, x_add_l, x_add_t, x_mul_i, x_mul_s, x_mul_l, x_sub, x_mod, x_div, x_pow, x_lt_i, x_gt_i, x_le_i, x_ge_i, x_lt_s, x_gt_s, x_le_s, x_ge_s, x_in_s, x_in_ds, x_in_di, x_in_l, x_in_t, x_ix_l, x_ix_t, x_ix_s, x_ix_ds, x_ix_di, x_is, x_sl_l, x_sl_s, x_sl_t, x_len_l, x_len_t, x_len_s, x_len_d, x_list_l, x_list_t, x_sum, x_max, x_min, x_isi, x_rg1, x_rg2, x_rg3, x_wk_l, x_wk_t, x_wk_s, x_wk_d, x_enum, x_enS, x_zip, x_ziS, x_items, x_itS, x_values, x_vaS, x_rt1, x_rt2, x_rt3, x_rtS1, x_rtS2, x_set1, x_set2, x_set3, x_cell1, x_cell2, x_cell3, x_on1, x_on2, x_onS1, x_onS2, x_onL, x_put_l, x_put_ds, x_put_di, x_app, x_isL, x_mLst, x_tp, x_gs0, x_gs1, x_par2, x_par3, x_p2S, x_p3S, x_keep1, x_keep2, x_keep3, x_wR0, x_wR1, x_uR0, x_uR1, x_vws0, x_vws1, atI_0, atI_1, atI_2, atI_3, ixN_0, ixN_1, ixN_2, ixN_3, cmp_int, cmp_str, cmp_bl, eqD_int, eqD_str, eqD_bl, tT_NoneType, tT_bool, tT_int, tT_str, tT_list, tT_tuple, tT_dict, tN_int, tN_bool, tN_str, tN_list, tN_tuple, tN_dict, iT_NoneType_int, iT_NoneType_bool, iT_NoneType_str, iT_NoneType_list, iT_NoneType_tuple, iT_NoneType_dict, iT_bool_int, iT_bool_bool, iT_bool_str, iT_bool_list, iT_bool_tuple, iT_bool_dict, iT_int_int, iT_int_bool, iT_int_str, iT_int_list, iT_int_tuple, iT_int_dict, iT_str_int, iT_str_bool, iT_str_str, iT_str_list, iT_str_tuple, iT_str_dict, iT_list_int, iT_list_bool, iT_list_str, iT_list_list, iT_list_tuple, iT_list_dict, iT_tuple_int, iT_tuple_bool, iT_tuple_str, iT_tuple_list, iT_tuple_tuple, iT_tuple_dict, iT_dict_int, iT_dict_bool, iT_dict_str, iT_dict_list, iT_dict_tuple, iT_dict_dict]
    refine ⟨ns, j, by rw [Int.zero_add], hl, by omega, fun c hc => ?_⟩
    simp only [sSeq, sNil, sPass, sBreak, sCont, sDrop, sRet, sRetN, sIf, sSet, sSetC, sFor, sAsg, fCon, fOp, f2, fV, fE, fCell, fT, gYes, gAnd, gOr, gNot, fAnd, fOr, fNot, fIf, fNeg, fCh, fCall, fCallK, fCons, fNil, fTup, fLst, fDnew, rNil, rCons, fBlt, fRg, fAny, fLc, fSl, fO, fNoO, gNm, gPut, fM1, fBits, kEq, kNe, enOf, wipeS, unwS, List.getElem?_cons_zero, List.getElem?_cons_succ, List.set_cons_zero, List.set_cons_succ, List.append_nil, List.nil_append, List.cons_append, if_true, if_false, if_pos, Bool.false_eq_true, true_and, and_true, exists_eq_left', exists_eq_left, exists_and_left, D.int.injEq, D.str.injEq, D.lst.injEq, Option.some.injEq, exists_const, ite_true, ite_false, Bool.not_true, Bool.not_false, Bool.false_xor, Bool.true_xor, reduceIte, tyD, x_fVar, x_fv1, x_fv2, x_tl, x_td, x_fz1, x_fz2, x_fz3, x_fzS1, x_fzS2, x_vw_non, x_vw_bl, x_vw_int, x_vw_str, x_vw_lst, x_vw_tup, x_vw_dic, x_vw_raw, x_vw_loc, x_vwL, x_vw_new, x_vw_slo, x_vwS1, x_vwS2, x_isI, x_isB, x_add_i, x_add_s, x_add_l, x_add_t, x_mul_i, x_mul_s, x_mul_l, x_sub, x_mod, x_div, x_pow, x_lt_i, x_gt_i, x_le_i, x_ge_i, x_lt_s, x_gt_s, x_le_s, x_ge_s, x_in_s, x_in_ds, x_in_di, x_in_l, x_in_t, x_ix_l, x_ix_t, x_ix_s, x_ix_ds, x_ix_di, x_is, x_sl_l, x_sl_s, x_sl_t, x_len_l, x_len_t, x_len_s, x_len_d, x_list_l, x_list_t, x_sum, x_max, x_min, x_isi, x_rg1, x_rg2, x_rg3, x_wk_l, x_wk_t, x_wk_s, x_wk_d, x_enum, x_enS, x_zip, x_ziS, x_items, x_itS, x_values, x_vaS, x_rt1, x_rt2, x_rt3, x_rtS1, x_rtS2, x_set1, x_set2, x_set3, x_cell1, x_cell2, x_cell3, x_on1, x_on2, x_onS1, x_onS2, x_onL, x_put_l, x_put_ds, x_put_di, x_app, x_isL, x_mLst, x_tp, x_gs0, x_gs1, x_par2, x_par3, x_p2S, x_p3S, x_keep1, x_keep2, x_keep3, x_wR0, x_wR1, x_uR0, x_uR1, x_vws0, x_vws1, atI_0, atI_1, atI_2, atI_3, ixN_0, ixN_1, ixN_2, ixN_3, cmp_int, cmp_str, cmp_bl, eqD_int, eqD_str, eqD_bl, tT_NoneType, tT_bool, tT_int, tT_str, tT_list, tT_tuple, tT_dict, tN_int, tN_bool, tN_str, tN_list, tN_tuple, tN_dict, iT_NoneType_int, iT_NoneType_bool, iT_NoneType_str, iT_NoneType_list, iT_NoneType_tuple, iT_NoneType_dict, iT_bool_int, iT_bool_bool, iT_bool_str, iT_bool_list, iT_bool_tuple, iT_bool_dict, iT_int_int, iT_int_bool, iT_int_str, iT_int_list, iT_int_tuple, iT_int_dict, iT_str_int, iT_str_bool, iT_str_str, iT_str_list, iT_str_tuple, iT_str_dict, iT_list_int, iT_list_bool, iT_list_str, iT_list_list, iT_list_tuple, iT_list_dict, iT_tuple_int, iT_tuple_bool, iT_tuple_str, iT_tuple_list, iT_tuple_tuple, iT_tuple_dict, iT_dict_int, iT_dict_bool, iT_dict_str, iT_dict_list, iT_dict_tuple, iT_dict_dict]
    refine hP _ _ ⟨cs ++ [c], ?_, by rw [List.length_append, h2]; rfl, by rw [List.range_succ, List.map_append, h2]; rfl, rfl⟩
    intro x hx
    rcases List.mem_append.mp hx with hx | hx
    · exact h1 x hx
    · rw [List.mem_singleton.mp hx]; exact hc
  · rintro acc s ⟨cs, h1, h2, rfl, rfl⟩
    rw [upI_len] at *
    rw [← h2]
    exact h cs h1 (by omega)
theorem law_law : ∀ ds S G, c_law ds S G → fb_law (enOf G) (startS N_law ds S) := by
  rintro ds S G ⟨ns, rfl, hl, rfl, h⟩
  show fb_law (enOf G) ⟨[.val (.lst (ns.map D.int)), .no, .no, .no], []⟩
  unfold fb_law
  refine seq_i fun N hN => for_i fun M hM => ?_
  simp only [sSeq, sNil, sPass, sBreak, sCont, sDrop, sRet, sRetN, sIf, sSet, sSetC, sFor, sAsg, fCon, fOp, f2, fV, fE, fCell, fT, gYes, gAnd, gOr, gNot, fAnd, fOr, fNot, fIf, fNeg, fCh, fCall, fCallK, fCons, fNil, fTup, fLst, fDnew, rNil, rCons, fBlt, fRg, fAny, fLc, fSl, fO, fNoO, gNm, gPut, fM1, fBits, kEq, kNe, enOf, wipeS, unwS, List.getElem?_cons_zero, List.getElem?_cons_succ, List.set_cons_zero, List.set_cons_succ, List.append_nil, List.nil_append, List.cons_append, if_true, if_false, if_pos, Bool.false_eq_true, true_and, and_true, exists_eq_left', exists_eq_left, exists_and_left, D.int.injEq, D.str.injEq, D.lst.injEq, Option.some.injEq, exists_const, ite_true, ite_false, Bool.not_true, Bool.not_false, Bool.false_xor, Bool.true_xor, reduceIte, tyD, x_fVar, x_fv1, x_fv2, x_tl, x_td, x_fz1, x_fz2, x_fz3, x_fzS1, x_fzS2, x_vw_non, x_vw_bl, x_vw_int, x_vw_str, x_vw_lst, x_vw_tup, x_vw_dic, x_vw_raw, x_vw_loc, x_vwL, x_vw_new, x_vw_slo, x_vwS1, x_vwS2, x_isI, x_isB, x_add_i, x_add_s, x_add_l, x_add_t, x_mul_i, x_mul_s, x_mul_l, x_sub, x_mod, x_div, x_pow, x_lt_i, x_gt_i, x_le_i, x_ge_i, x_lt_s, x_gt_s, x_le_s, x_ge_s, x_in_s, x_in_ds, x_in_di, x_in_l, x_in_t, x_ix_l, x_ix_t, x_ix_s, x_ix_ds, x_ix_di, x_is, x_sl_l, x_sl_s, x_sl_t, x_len_l, x_len_t, x_len_s, x_len_d, x_list_l, x_list_t, x_sum, x_max, x_min, x_isi, x_rg1, x_rg2, x_rg3, x_wk_l, x_wk_t, x_wk_s, x_wk_d, x_enum, x_enS, x_zip, x_ziS, x_items, x_itS, x_values, x_vaS, x_rt1, x_rt2, x_rt3, x_rtS1, x_rtS2, x_set1, x_set2, x_set3, x_cell1, x_cell2, x_cell3, x_on1, x_on2, x_onS1, x_onS2, x_onL, x_put_l, x_put_ds, x_put_di, x_app, x_isL, x_mLst, x_tp, x_gs0, x_gs1, x_par2, x_par3, x_p2S, x_p3S, x_keep1, x_keep2, x_keep3, x_wR0, x_wR1, x_uR0, x_uR1, x_vws0, x_vws1, atI_0, atI_1, atI_2, atI_3, ixN_0, ixN_1, ixN_2, ixN_3, cmp_int, cmp_str, cmp_bl, eqD_int, eqD_str, eqD_bl, tT_NoneType, tT_bool, tT_int, tT_str, tT_list, tT_tuple, tT_dict, tN_int, tN_bool, tN_str, tN_list, tN_tuple, tN_dict, iT_NoneType_int, iT_NoneType_bool, iT_NoneType_str, iT_NoneType_list, iT_NoneType_tuple, iT_NoneType_dict, iT_bool_int, iT_bool_bool, iT_bool_str, iT_bool_list, iT_bool_tuple, iT_bool_dict, iT_int_int, iT_int_bool, iT_int_str, iT_int_list, iT_int_tuple, iT_int_dict, iT_str_int, iT_str_bool, iT_str_str, iT_str_list, iT_str_tuple, iT_str_dict, iT_list_int, iT_list_bool, iT_list_str, iT_list_list, iT_list_tuple, iT_list_dict, iT_tuple_int, iT_tuple_bool, iT_tuple_str, iT_tuple_list, iT_tuple_tuple, iT_tuple_dict, iT_dict_int, iT_dict_bool, iT_dict_str, iT_dict_list, iT_dict_tuple, iT_dict_dict]
  refine ⟨ns, 12, rfl, hl, by decide, rfl, fun cs hc hcl => ?_⟩
  simp only [sSeq, sNil, sPass, sBreak, sCont, sDrop, sRet, sRetN, sIf, sSet, sSetC, sFor, sAsg, fCon, fOp, f2, fV, fE, fCell, fT, gYes, gAnd, gOr, gNot, fAnd, fOr, fNot, fIf, fNeg, fCh, fCall, fCallK, fCons, fNil, fTup, fLst, fDnew, rNil, rCons, fBlt, fRg, fAny, fLc, fSl, fO, fNoO, gNm, gPut, fM1, fBits, kEq, kNe, enOf, wipeS, unwS, List.getElem?_cons_zero, List.getElem?_cons_succ, List.set_cons_zero, List.set_cons_succ, List.append_nil, List.nil_append, List.cons_append, if_true, if_false, if_pos, Bool.false_eq_true, true_and, and_true, exists_eq_left', exists_eq_left, exists_and_left, D.int.injEq, D.str.injEq, D.lst.injEq, Option.some.injEq, exists_const, ite_true, ite_false, Bool.not_true, Bool.not_false, Bool.false_xor, Bool.true_xor, reduceIte, tyD, x_fVar, x_fv1, x_fv2, x_tl, x_td, x_fz1, x_fz2, x_fz3, x_fzS1, x_fzS2, x_vw_non, x_vw_bl, x_vw_int, x_vw_str, x_vw_lst, x_vw_tup, x_vw_dic, x_vw_raw, x_vw_loc, x_vwL, x_vw_new, x_vw_slo, x_vwS1, x_vwS2, x_isI, x_isB, x_add_i, x_add_s, x_add_l, x_add_t, x_mul_i, x_mul_s, x_mul_l, x_sub, x_mod, x_div, x_pow, x_lt_i, x_gt_i, x_le_i, x_ge_i, x_lt_s, x_gt_s, x_le_s, x_ge_s, x_in_s, x_in_ds, x_in_di, x_in_l, x_in_t, x_ix_l, x_ix_t, x_ix_s, x_ix_ds, x_ix_di, x_is, x_sl_l, x_sl_s, x_sl_t, x_len_l, x_len_t, x_len_s, x_len_d, x_list_l, x_list_t, x_sum, x_max, x_min, x_isi, x_rg1, x_rg2, x_rg3, x_wk_l, x_wk_t, x_wk_s, x_wk_d, x_enum, x_enS, x_zip, x_ziS, x_items, x_itS, x_values, x_vaS, x_rt1, x_rt2, x_rt3, x_rtS1, x_rtS2, x_set1, x_set2, x_set3, x_cell1, x_cell2, x_cell3, x_on1, x_on2, x_onS1, x_onS2, x_onL, x_put_l, x_put_ds, x_put_di, x_app, x_isL, x_mLst, x_tp, x_gs0, x_gs1, x_par2, x_par3, x_p2S, x_p3S, x_keep1, x_keep2, x_keep3, x_wR0, x_wR1, x_uR0, x_uR1, x_vws0, x_vws1, atI_0, atI_1, atI_2, atI_3, ixN_0, ixN_1, ixN_2, ixN_3, cmp_int, cmp_str, cmp_bl, eqD_int, eqD_str, eqD_bl, tT_NoneType, tT_bool, tT_int, tT_str, tT_list, tT_tuple, tT_dict, tN_int, tN_bool, tN_str, tN_list, tN_tuple, tN_dict, iT_NoneType_int, iT_NoneType_bool, iT_NoneType_str, iT_NoneType_list, iT_NoneType_tuple, iT_NoneType_dict, iT_bool_int, iT_bool_bool, iT_bool_str, iT_bool_list, iT_bool_tuple, iT_bool_dict, iT_int_int, iT_int_bool, iT_int_str, iT_int_list, iT_int_tuple, iT_int_dict, iT_str_int, iT_str_bool, iT_str_str, iT_str_list, iT_str_tuple, iT_str_dict, iT_list_int, iT_list_bool, iT_list_str, iT_list_list, iT_list_tuple, iT_list_dict, iT_tuple_int, iT_tuple_bool, iT_tuple_str, iT_tuple_list, iT_tuple_tuple, iT_tuple_dict, iT_dict_int, iT_dict_bool, iT_dict_str, iT_dict_list, iT_dict_tuple, iT_dict_dict]
  refine hM _ _ ?_
  refine loop_inv (fun i s => ∃ cs' x y z, cs'.length = cs.length ∧ (∀ j c, i ≤ j → cs'[j]? = some c → Purse c 0) ∧ s = ⟨[.val (.lst (ns.map D.int)), x, y, z], cs'⟩) ⟨cs, .no, .no, .no, rfl, fun j c _ e => hc c (List.mem_of_getElem? e), rfl⟩ ?_ ?_
  · rintro i d s hd ⟨cs', x, y, z, e1, e2, rfl⟩ P hP
    obtain ⟨hi, rfl⟩ : i < cs.length ∧ d = D.loc i := by
      rw [List.getElem?_map] at hd
      by_cases q : i < cs.length
      · rw [List.getElem?_range q] at hd; exact ⟨q, (Option.some.inj hd).symm⟩
      · rw [List.getElem?_eq_none (by simpa using q)] at hd; cases hd
    have hci : cs'[i]? = some cs'[i] := List.getElem?_eq_getElem (by omega)
    refine seq_i fun N1 hN1 => ?_
    simp only [sSeq, sNil, sPass, sBreak, sCont, sDrop, sRet, sRetN, sIf, sSet, sSetC, sFor, sAsg, fCon, fOp, f2, fV, fE, fCell, fT, gYes, gAnd, gOr, gNot, fAnd, fOr, fNot, fIf, fNeg, fCh, fCall, fCallK, fCons, fNil, fTup, fLst, fDnew, rNil, rCons, fBlt, fRg, fAny, fLc, fSl, fO, fNoO, gNm, gPut, fM1, fBits, kEq, kNe, enOf, wipeS, unwS, List.getElem?_cons_zero, List.getElem?_cons_succ, List.set_cons_zero, List.set_cons_succ, List.append_nil, List.nil_append, List.cons_append, if_true, if_false, if_pos, Bool.false_eq_true, true_and, and_true, exists_eq_left', exists_eq_left, exists_and_left, D.int.injEq, D.str.injEq, D.lst.injEq, Option.some.injEq, exists_const, ite_true, ite_false, Bool.not_true, Bool.not_false, Bool.false_xor, Bool.true_xor, reduceIte, tyD, x_fVar, x_fv1, x_fv2, x_tl, x_td, x_fz1, x_fz2, x_fz3, x_fzS1, x_fzS2, x_vw_non, x_vw_bl, x_vw_int, x_vw_str, x_vw_lst, x_vw_tup, x_vw_dic, x_vw_raw, x_vw_loc, x_vwL, x_vw_new, x_vw_slo, x_vwS1, x_vwS2, x_isI, x_isB, x_add_i, x_add_s, x_add_l, x_add_t, x_mul_i, x_mul_s, x_mul_l, x_sub, x_mod, x_div, x_pow, x_lt_i, x_gt_i, x_le_i, x_ge_i, x_lt_s, x_gt_s, x_le_s, x_ge_s, x_in_s, x_in_ds, x_in_di, x_in_l, x_in_t, x_ix_l, x_ix_t, x_ix_s, x_ix_ds, x_ix_di, x_is, x_sl_l, x_sl_s, x_sl_t, x_len_l, x_len_t, x_len_s, x_len_d, x_list_l, x_list_t, x_sum, x_max, x_min, x_isi, x_rg1, x_rg2, x_rg3, x_wk_l, x_wk_t, x_wk_s, x_wk_d, x_enum, x_enS, x_zip, x_ziS, x_items, x_itS, x_values, x_vaS, x_rt1, x_rt2, x_rt3, x_rtS1, x_rtS2, x_set1, x_set2, x_set3, x_cell1, x_cell2, x_cell3, x_on1, x_on2, x_onS1, x_onS2, x_onL, x_put_l, x_put_ds, x_put_di, x_app, x_isL, x_mLst, x_tp, x_gs0, x_gs1, x_par2, x_par3, x_p2S, x_p3S, x_keep1, x_keep2, x_keep3, x_wR0, x_wR1, x_uR0, x_uR1, x_vws0, x_vws1, atI_0, atI_1, atI_2, atI_3, ixN_0, ixN_1, ixN_2, ixN_3, cmp_int, cmp_str, cmp_bl, eqD_int, eqD_str, eqD_bl, tT_NoneType, tT_bool, tT_int, tT_str, tT_list, tT_tuple, tT_dict, tN_int, tN_bool, tN_str, tN_list, tN_tuple, tN_dict, iT_NoneType_int, iT_NoneType_bool, iT_NoneType_str, iT_NoneType_list, iT_NoneType_tuple, iT_NoneType_dict, iT_bool_int, iT_bool_bool, iT_bool_str, iT_bool_list, iT_bool_tuple, iT_bool_dict, iT_int_int, iT_int_bool, iT_int_str, iT_int_list, iT_int_tuple, iT_int_dict, iT_str_int, iT_str_bool, iT_str_str, iT_str_list, iT_str_tuple, iT_str_dict, iT_list_int, iT_list_bool, iT_list_str, iT_list_list, iT_list_tuple, iT_list_dict, iT_tuple_int, iT_tuple_bool, iT_tuple_str, iT_tuple_list, iT_tuple_tuple, iT_tuple_dict, iT_dict_int, iT_dict_bool, iT_dict_str, iT_dict_list, iT_dict_tuple, iT_dict_dict]
    refine ⟨i, 9, _, 0, rfl, hci, e2 i _ (Nat.le_refl _) hci, by decide, by decide, by decide, fun r1 c1 a1 a2 p1 => ?_⟩
    simp only [sSeq, sNil, sPass, sBreak, sCont, sDrop, sRet, sRetN, sIf, sSet, sSetC, sFor, sAsg, fCon, fOp, f2, fV, fE, fCell, fT, gYes, gAnd, gOr, gNot, fAnd, fOr, fNot, fIf, fNeg, fCh, fCall, fCallK, fCons, fNil, fTup, fLst, fDnew, rNil, rCons, fBlt, fRg, fAny, fLc, fSl, fO, fNoO, gNm, gPut, fM1, fBits, kEq, kNe, enOf, wipeS, unwS, List.getElem?_cons_zero, List.getElem?_cons_succ, List.set_cons_zero, List.set_cons_succ, List.append_nil, List.nil_append, List.cons_append, if_true, if_false, if_pos, Bool.false_eq_true, true_and, and_true, exists_eq_left', exists_eq_left, exists_and_left, D.int.injEq, D.str.injEq, D.lst.injEq, Option.some.injEq, exists_const, ite_true, ite_false, Bool.not_true, Bool.not_false, Bool.false_xor, Bool.true_xor, reduceIte, tyD, x_fVar, x_fv1, x_fv2, x_tl, x_td, x_fz1, x_fz2, x_fz3, x_fzS1, x_fzS2, x_vw_non, x_vw_bl, x_vw_int, x_vw_str, x_vw_lst, x_vw_tup, x_vw_dic, x_vw_raw, x_vw_loc, x_vwL, x_vw_new, x_vw_slo, x_vwS1, x_vwS2, x_isI, x_isB, x_add_i, x_add_s, x_add_l, x_add_t, x_mul_i, x_mul_s, x_mul_l, x_sub, x_mod, x_div, x_pow, x_lt_i, x_gt_i, x_le_i, x_ge_i, x_lt_s, x_gt_s, x_le_s, x_ge_s, x_in_s, x_in_ds, x_in_di, x_in_l, x_in_t, x_ix_l, x_ix_t, x_ix_s, x_ix_ds, x_ix_di, x_is, x_sl_l, x_sl_s, x_sl_t, x_len_l, x_len_t, x_len_s, x_len_d, x_list_l, x_list_t, x_sum, x_max, x_min, x_isi, x_rg1, x_rg2, x_rg3, x_wk_l, x_wk_t, x_wk_s, x_wk_d, x_enum, x_enS, x_zip, x_ziS, x_items, x_itS, x_values, x_vaS, x_rt1, x_rt2, x_rt3, x_rtS1, x_rtS2, x_set1, x_set2, x_set3, x_cell1, x_cell2, x_cell3, x_on1, x_on2, x_onS1, x_onS2, x_onL, x_put_l, x_put_ds, x_put_di, x_app, x_isL, x_mLst, x_tp, x_gs0, x_gs1, x_par2, x_par3, x_p2S, x_p3S, x_keep1, x_keep2, x_keep3, x_wR0, x_wR1, x_uR0, x_uR1, x_vws0, x_vws1, atI_0, atI_1, atI_2, atI_3, ixN_0, ixN_1, ixN_2, ixN_3, cmp_int, cmp_str, cmp_bl, eqD_int, eqD_str, eqD_bl, tT_NoneType, tT_bool, tT_int, tT_str, tT_list, tT_tuple, tT_dict, tN_int, tN_bool, tN_str, tN_list, tN_tuple, tN_dict, iT_NoneType_int, iT_NoneType_bool, iT_NoneType_str, iT_NoneType_list, iT_NoneType_tuple, iT_NoneType_dict, iT_bool_int, iT_bool_bool, iT_bool_str, iT_bool_list, iT_bool_tuple, iT_bool_dict, iT_int_int, iT_int_bool, iT_int_str, iT_int_list, iT_int_tuple, iT_int_dict, iT_str_int, iT_str_bool, iT_str_str, iT_str_list, iT_str_tuple, iT_str_dict, iT_list_int, iT_list_bool, iT_list_str, iT_list_list, iT_list_tuple, iT_list_dict, iT_tuple_int, iT_tuple_bool, iT_tuple_str, iT_tuple_list, iT_tuple_tuple, iT_tuple_dict, iT_dict_int, iT_dict_bool, iT_dict_str, iT_dict_list, iT_dict_tuple, iT_dict_dict]
    refine ⟨i, 12, c1, 3, rfl, List.getElem?_set_self (by omega), p1, by decide, by decide, by decide, fun r2 c2 b1 b2 p2 => ?_⟩
    simp only [sSeq, sNil, sPass, sBreak, sCont, sDrop, sRet, sRetN, sIf, sSet, sSetC, sFor, sAsg, fCon, fOp, f2, fV, fE, fCell, fT, gYes, gAnd, gOr, gNot, fAnd, fOr, fNot, fIf, fNeg, fCh, fCall, fCallK, fCons, fNil, fTup, fLst, fDnew, rNil, rCons, fBlt, fRg, fAny, fLc, fSl, fO, fNoO, gNm, gPut, fM1, fBits, kEq, kNe, enOf, wipeS, unwS, List.getElem?_cons_zero, List.getElem?_cons_succ, List.set_cons_zero, List.set_cons_succ, List.append_nil, List.nil_append, List.cons_append, if_true, if_false, if_pos, Bool.false_eq_true, true_and, and_true, exists_eq_left', exists_eq_left, exists_and_left, D.int.injEq, D.str.injEq, D.lst.injEq, Option.some.injEq, exists_const, ite_true, ite_false, Bool.not_true, Bool.not_false, Bool.false_xor, Bool.true_xor, reduceIte, tyD, x_fVar, x_fv1, x_fv2, x_tl, x_td, x_fz1, x_fz2, x_fz3, x_fzS1, x_fzS2, x_vw_non, x_vw_bl, x_vw_int, x_vw_str, x_vw_lst, x_vw_tup, x_vw_dic, x_vw_raw, x_vw_loc, x_vwL, x_vw_new, x_vw_slo, x_vwS1, x_vwS2, x_isI, x_isB, x_add_i, x_add_s, x_add_l, x_add_t, x_mul_i, x_mul_s, x_mul_l, x_sub, x_mod, x_div, x_pow, x_lt_i, x_gt_i, x_le_i, x_ge_i, x_lt_s, x_gt_s, x_le_s, x_ge_s, x_in_s, x_in_ds, x_in_di, x_in_l, x_in_t, x_ix_l, x_ix_t, x_ix_s, x_ix_ds, x_ix_di, x_is, x_sl_l, x_sl_s, x_sl_t, x_len_l, x_len_t, x_len_s, x_len_d, x_list_l, x_list_t, x_sum, x_max, x_min, x_isi, x_rg1, x_rg2, x_rg3, x_wk_l, x_wk_t, x_wk_s, x_wk_d, x_enum, x_enS, x_zip, x_ziS, x_items, x_itS, x_values, x_vaS, x_rt1, x_rt2, x_rt3, x_rtS1, x_rtS2, x_set1, x_set2, x_set3, x_cell1, x_cell2, x_cell3, x_on1, x_on2, x_onS1, x_onS2, x_onL, x_put_l, x_put_ds, x_put_di, x_app, x_isL, x_mLst, x_tp, x_gs0, x_gs1, x_par2, x_par3, x_p2S, x_p3S, x_keep1, x_keep2, x_keep3, x_wR0, x_wR1, x_uR0, x_uR1, x_vws0, x_vws1, atI_0, atI_1, atI_2, atI_3, ixN_0, ixN_1, ixN_2, ixN_3, cmp_int, cmp_str, cmp_bl, eqD_int, eqD_str, eqD_bl, tT_NoneType, tT_bool, tT_int, tT_str, tT_list, tT_tuple, tT_dict, tN_int, tN_bool, tN_str, tN_list, tN_tuple, tN_dict, iT_NoneType_int, iT_NoneType_bool, iT_NoneType_str, iT_NoneType_list, iT_NoneType_tuple, iT_NoneType_dict, iT_bool_int, iT_bool_bool, iT_bool_str, iT_bool_list, iT_bool_tuple, iT_bool_dict, iT_int_int, iT_int_bool, iT_int_str, iT_int_list, iT_int_tuple, iT_int_dict, iT_str_int, iT_str_bool, iT_str_str, iT_str_list, iT_str_tuple, iT_str_dict, iT_list_int, iT_list_bool, iT_list_str, iT_list_list, iT_list_tuple, iT_list_dict, iT_tuple_int, iT_tuple_bool, iT_tuple_str, iT_tuple_list, iT_tuple_tuple, iT_tuple_dict, iT_dict_int, iT_dict_bool, iT_dict_str, iT_dict_list, iT_dict_tuple, iT_dict_dict]
    refine hN1 _ ?_
    obtain ⟨n1, rfl⟩ := Int.eq_ofNat_of_zero_le a1
    obtain ⟨n2, rfl⟩ := Int.eq_ofNat_of_zero_le b1
    have q1 : (2 : Int) + (n1 : Int) = ((2 + n1 : Nat) : Int) := by omega
    rw [q1]
    refine seq_i fun N2 hN2 => ?_
    simp only [sSeq, sNil, sPass, sBreak, sCont, sDrop, sRet, sRetN, sIf, sSet, sSetC, sFor, sAsg, fCon, fOp, f2, fV, fE, fCell, fT, gYes, gAnd, gOr, gNot, fAnd, fOr, fNot, fIf, fNeg, fCh, fCall, fCallK, fCons, fNil, fTup, fLst, fDnew, rNil, rCons, fBlt, fRg, fAny, fLc, fSl, fO, fNoO, gNm, gPut, fM1, fBits, kEq, kNe, enOf, wipeS, unwS, List.getElem?_cons_zero, List.getElem?_cons_succ, List.set_cons_zero, List.set_cons_succ, List.append_nil, List.nil_append, List.cons_append, if_true, if_false, if_pos, Bool.false_eq_true, true_and, and_true, exists_eq_left', exists_eq_left, exists_and_left, D.int.injEq, D.str.injEq, D.lst.injEq, Option.some.injEq, exists_const, ite_true, ite_false, Bool.not_true, Bool.not_false, Bool.false_xor, Bool.true_xor, reduceIte, tyD, x_fVar, x_fv1, x_fv2, x_tl, x_td, x_fz1, x_fz2, x_fz3, x_fzS1, x_fzS2, x_vw_non, x_vw_bl, x_vw_int, x_vw_str, x_vw_lst, x_vw_tup, x_vw_dic, x_vw_raw, x_vw_loc, x_vwL, x_vw_new, x_vw_slo, x_vwS1, x_vwS2, x_isI, x_isB, x_add_i, x_add_s, x_add_l, x_add_t, x_mul_i, x_mul_s, x_mul_l, x_sub, x_mod, x_div, x_pow, x_lt_i, x_gt_i, x_le_i, x_ge_i, x_lt_s, x_gt_s, x_le_s, x_ge_s, x_in_s, x_in_ds, x_in_di, x_in_l, x_in_t, x_ix_l, x_ix_t, x_ix_s, x_ix_ds, x_ix_di, x_is, x_sl_l, x_sl_s, x_sl_t, x_len_l, x_len_t, x_len_s, x_len_d, x_list_l, x_list_t, x_sum, x_max, x_min, x_isi, x_rg1, x_rg2, x_rg3, x_wk_l, x_wk_t, x_wk_s, x_wk_d, x_enum, x_enS, x_zip, x_ziS, x_items, x_itS, x_values, x_vaS, x_rt1, x_rt2, x_rt3, x_rtS1, x_rtS2, x_set1, x_set2, x_set3, x_cell1, x_cell2, x_cell3, x_on1, x_on2, x_onS1, x_onS2, x_onL, x_put_l, x_put_ds, x_put_di, x_app, x_isL, x_mLst, x_tp, x_gs0, x_gs1, x_par2, x_par3, x_p2S, x_p3S, x_keep1, x_keep2, x_keep3, x_wR0, x_wR1, x_uR0, x_uR1, x_vws0, x_vws1, atI_0, atI_1, atI_2, atI_3, ixN_0, ixN_1, ixN_2, ixN_3, cmp_int, cmp_str, cmp_bl, eqD_int, eqD_str, eqD_bl, tT_NoneType, tT_bool, tT_int, tT_str, tT_list, tT_tuple, tT_dict, tN_int, tN_bool, tN_str, tN_list, tN_tuple, tN_dict, iT_NoneType_int, iT_NoneType_bool, iT_NoneType_str, iT_NoneType_list, iT_NoneType_tuple, iT_NoneType_dict, iT_bool_int, iT_bool_bool, iT_bool_str, iT_bool_list, iT_bool_tuple, iT_bool_dict, iT_int_int, iT_int_bool, iT_int_str, iT_int_list, iT_int_tuple, iT_int_dict, iT_str_int, iT_str_bool, iT_str_str, iT_str_list, iT_str_tuple, iT_str_dict, iT_list_int, iT_list_bool, iT_list_str, iT_list_list, iT_list_tuple, iT_list_dict, iT_tuple_int, iT_tuple_bool, iT_tuple_str, iT_tuple_list, iT_tuple_tuple, iT_tuple_dict, iT_dict_int, iT_dict_bool, iT_dict_str, iT_dict_list, iT_dict_tuple, iT_dict_dict]
    refine ⟨rfl, rfl, 2 + n1, n2, rfl, by omega, ?_⟩
    simp only [sSeq, sNil, sPass, sBreak, sCont, sDrop, sRet, sRetN, sIf, sSet, sSetC, sFor, sAsg, fCon, fOp, f2, fV, fE, fCell, fT, gYes, gAnd, gOr, gNot, fAnd, fOr, fNot, fIf, fNeg, fCh, fCall, fCallK, fCons, fNil, fTup, fLst, fDnew, rNil, rCons, fBlt, fRg, fAny, fLc, fSl, fO, fNoO, gNm, gPut, fM1, fBits, kEq, kNe, enOf, wipeS, unwS, List.getElem?_cons_zero, List.getElem?_cons_succ, List.set_cons_zero, List.set_cons_succ, List.append_nil, List.nil_append, List.cons_append, if_true, if_false, if_pos, Bool.false_eq_true, true_and, and_true, exists_eq_left', exists_eq_left, exists_and_left, D.int.injEq, D.str.injEq, D.lst.injEq, Option.some.injEq, exists_const, ite_true, ite_false, Bool.not_true, Bool.not_false, Bool.false_xor, Bool.true_xor, reduceIte, tyD, x_fVar, x_fv1, x_fv2, x_tl, x_td, x_fz1, x_fz2, x_fz3, x_fzS1, x_fzS2, x_vw_non, x_vw_bl, x_vw_int, x_vw_str, x_vw_lst, x_vw_tup, x_vw_dic, x_vw_raw, x_vw_loc, x_vwL, x_vw_new, x_vw_slo, x_vwS1, x_vwS2, x_isI, x_isB, x_add_i, x_add_s, x_add_l, x_add_t, x_mul_i, x_mul_s, x_mul_l, x_sub, x_mod, x_div, x_pow, x_lt_i, x_gt_i, x_le_i, x_ge_i, x_lt_s, x_gt_s, x_le_s, x_ge_s, x_in_s, x_in_ds, x_in_di, x_in_l, x_in_t, x_ix_l, x_ix_t, x_ix_s, x_ix_ds, x_ix_di, x_is, x_sl_l, x_sl_s, x_sl_t, x_len_l, x_len_t, x_len_s, x_len_d, x_list_l, x_list_t, x_sum, x_max, x_min, x_isi, x_rg1, x_rg2, x_rg3, x_wk_l, x_wk_t, x_wk_s, x_wk_d, x_enum, x_enS, x_zip, x_ziS, x_items, x_itS, x_values, x_vaS, x_rt1, x_rt2, x_rt3, x_rtS1, x_rtS2, x_set1, x_set2, x_set3, x_cell1, x_cell2, x_cell3, x_on1, x_on2, x_onS1, x_onS2, x_onL, x_put_l, x_put_ds, x_put_di, x_app, x_isL, x_mLst, x_tp, x_gs0, x_gs1, x_par2, x_par3, x_p2S, x_p3S, x_keep1, x_keep2, x_keep3, x_wR0, x_wR1, x_uR0, x_uR1, x_vws0, x_vws1, atI_0, atI_1, atI_2, atI_3, ixN_0, ixN_1, ixN_2, ixN_3, cmp_int, cmp_str, cmp_bl, eqD_int, eqD_str, eqD_bl, tT_NoneType, tT_bool, tT_int, tT_str, tT_list, tT_tuple, tT_dict, tN_int, tN_bool, tN_str, tN_list, tN_tuple, tN_dict, iT_NoneType_int, iT_NoneType_bool, iT_NoneType_str, iT_NoneType_list, iT_NoneType_tuple, iT_NoneType_dict, iT_bool_int, iT_bool_bool, iT_bool_str, iT_bool_list, iT_bool_tuple, iT_bool_dict, iT_int_int, iT_int_bool, iT_int_str, iT_int_list, iT_int_tuple, iT_int_dict, iT_str_int, iT_str_bool, iT_str_str, iT_str_list, iT_str_tuple, iT_str_dict, iT_list_int, iT_list_bool, iT_list_str, iT_list_list, iT_list_tuple, iT_list_dict, iT_tuple_int, iT_tuple_bool, iT_tuple_str, iT_tuple_list, iT_tuple_tuple, iT_tuple_dict, iT_dict_int, iT_dict_bool, iT_dict_str, iT_dict_list, iT_dict_tuple, iT_dict_dict]
    refine ⟨2 + n1, n2, rfl, by omega, ?_⟩
    simp only [sSeq, sNil, sPass, sBreak, sCont, sDrop, sRet, sRetN, sIf, sSet, sSetC, sFor, sAsg, fCon, fOp, f2, fV, fE, fCell, fT, gYes, gAnd, gOr, gNot, fAnd, fOr, fNot, fIf, fNeg, fCh, fCall, fCallK, fCons, fNil, fTup, fLst, fDnew, rNil, rCons, fBlt, fRg, fAny, fLc, fSl, fO, fNoO, gNm, gPut, fM1, fBits, kEq, kNe, enOf, wipeS, unwS, List.getElem?_cons_zero, List.getElem?_cons_succ, List.set_cons_zero, List.set_cons_succ, List.append_nil, List.nil_append, List.cons_append, if_true, if_false, if_pos, Bool.false_eq_true, true_and, and_true, exists_eq_left', exists_eq_left, exists_and_left, D.int.injEq, D.str.injEq, D.lst.injEq, Option.some.injEq, exists_const, ite_true, ite_false, Bool.not_true, Bool.not_false, Bool.false_xor, Bool.true_xor, reduceIte, tyD, x_fVar, x_fv1, x_fv2, x_tl, x_td, x_fz1, x_fz2, x_fz3, x_fzS1, x_fzS2, x_vw_non, x_vw_bl, x_vw_int, x_vw_str, x_vw_lst, x_vw_tup, x_vw_dic, x_vw_raw, x_vw_loc, x_vwL, x_vw_new, x_vw_slo, x_vwS1, x_vwS2, x_isI, x_isB, x_add_i, x_add_s, x_add_l, x_add_t, x_mul_i, x_mul_s, x_mul_l, x_sub, x_mod, x_div, x_pow, x_lt_i, x_gt_i, x_le_i, x_ge_i, x_lt_s, x_gt_s, x_le_s, x_ge_s, x_in_s, x_in_ds, x_in_di, x_in_l, x_in_t, x_ix_l, x_ix_t, x_ix_s, x_ix_ds, x_ix_di, x_is, x_sl_l, x_sl_s, x_sl_t, x_len_l, x_len_t, x_len_s, x_len_d, x_list_l, x_list_t, x_sum, x_max, x_min, x_isi, x_rg1, x_rg2, x_rg3, x_wk_l, x_wk_t, x_wk_s, x_wk_d, x_enum, x_enS, x_zip, x_ziS, x_items, x_itS, x_values, x_vaS, x_rt1, x_rt2, x_rt3, x_rtS1, x_rtS2, x_set1, x_set2, x_set3, x_cell1, x_cell2, x_cell3, x_on1, x_on2, x_onS1, x_onS2, x_onL, x_put_l, x_put_ds, x_put_di, x_app, x_isL, x_mLst, x_tp, x_gs0, x_gs1, x_par2, x_par3, x_p2S, x_p3S, x_keep1, x_keep2, x_keep3, x_wR0, x_wR1, x_uR0, x_uR1, x_vws0, x_vws1, atI_0, atI_1, atI_2, atI_3, ixN_0, ixN_1, ixN_2, ixN_3, cmp_int, cmp_str, cmp_bl, eqD_int, eqD_str, eqD_bl, tT_NoneType, tT_bool, tT_int, tT_str, tT_list, tT_tuple, tT_dict, tN_int, tN_bool, tN_str, tN_list, tN_tuple, tN_dict, iT_NoneType_int, iT_NoneType_bool, iT_NoneType_str, iT_NoneType_list, iT_NoneType_tuple, iT_NoneType_dict, iT_bool_int, iT_bool_bool, iT_bool_str, iT_bool_list, iT_bool_tuple, iT_bool_dict, iT_int_int, iT_int_bool, iT_int_str, iT_int_list, iT_int_tuple, iT_int_dict, iT_str_int, iT_str_bool, iT_str_str, iT_str_list, iT_str_tuple, iT_str_dict, iT_list_int, iT_list_bool, iT_list_str, iT_list_list, iT_list_tuple, iT_list_dict, iT_tuple_int, iT_tuple_bool, iT_tuple_str, iT_tuple_list, iT_tuple_tuple, iT_tuple_dict, iT_dict_int, iT_dict_bool, iT_dict_str, iT_dict_list, iT_dict_tuple, iT_dict_dict, decide_true]
    refine hN2 _ ?_
    simp only [sSeq, sNil, sPass, sBreak, sCont, sDrop, sRet, sRetN, sIf, sSet, sSetC, sFor, sAsg, fCon, fOp, f2, fV, fE, fCell, fT, gYes, gAnd, gOr, gNot, fAnd, fOr, fNot, fIf, fNeg, fCh, fCall, fCallK, fCons, fNil, fTup, fLst, fDnew, rNil, rCons, fBlt, fRg, fAny, fLc, fSl, fO, fNoO, gNm, gPut, fM1, fBits, kEq, kNe, enOf, wipeS, unwS, List.getElem?_cons_zero, List.getElem?_cons_succ, List.set_cons_zero, List.set_cons_succ, List.append_nil, List.nil_append, List.cons_append, if_true, if_false, if_pos, Bool.false_eq_true, true_and, and_true, exists_eq_left', exists_eq_left, exists_and_left, D.int.injEq, D.str.injEq, D.lst.injEq, Option.some.injEq, exists_const, ite_true, ite_false, Bool.not_true, Bool.not_false, Bool.false_xor, Bool.true_xor, reduceIte, tyD, x_fVar, x_fv1, x_fv2, x_tl, x_td, x_fz1, x_fz2, x_fz3, x_fzS1, x_fzS2, x_vw_non, x_vw_bl, x_vw_int, x_vw_str, x_vw_lst, x_vw_tup, x_vw_dic, x_vw_raw, x_vw_loc, x_vwL, x_vw_new, x_vw_slo, x_vwS1, x_vwS2, x_isI, x_isB, x_add_i, x_add_s, x_add_l, x_add_t, x_mul_i, x_mul_s, x_mul_l, x_sub, x_mod, x_div, x_pow, x_lt_i, x_gt_i, x_le_i, x_ge_i, x_lt_s, x_gt_s, x_le_s, x_ge_s, x_in_s, x_in_ds, x_in_di, x_in_l, x_in_t, x_ix_l, x_ix_t, x_ix_s, x_ix_ds, x_ix_di, x_is, x_sl_l, x_sl_s, x_sl_t, x_len_l, x_len_t, x_len_s, x_len_d, x_list_l, x_list_t, x_sum, x_max, x_min, x_isi, x_rg1, x_rg2, x_rg3, x_wk_l, x_wk_t, x_wk_s, x_wk_d, x_enum, x_enS, x_zip, x_ziS, x_items, x_itS, x_values, x_vaS, x_rt1, x_rt2, x_rt3, x_rtS1, x_rtS2, x_set1, x_set2, x_set3, x_cell1, x_cell2, x_cell3, x_on1, x_on2, x_onS1, x_onS2, x_onL, x_put_l, x_put_ds, x_put_di, x_app, x_isL, x_mLst, x_tp, x_gs0, x_gs1, x_par2, x_par3, x_p2S, x_p3S, x_keep1, x_keep2, x_keep3, x_wR0, x_wR1, x_uR0, x_uR1, x_vws0, x_vws1, atI_0, atI_1, atI_2, atI_3, ixN_0, ixN_1, ixN_2, ixN_3, cmp_int, cmp_str, cmp_bl, eqD_int, eqD_str, eqD_bl, tT_NoneType, tT_bool, tT_int, tT_str, tT_list, tT_tuple, tT_dict, tN_int, tN_bool, tN_str, tN_list, tN_tuple, tN_dict, iT_NoneType_int, iT_NoneType_bool, iT_NoneType_str, iT_NoneType_list, iT_NoneType_tuple, iT_NoneType_dict, iT_bool_int, iT_bool_bool, iT_bool_str, iT_bool_list, iT_bool_tuple, iT_bool_dict, iT_int_int, iT_int_bool, iT_int_str, iT_int_list, iT_int_tuple, iT_int_dict, iT_str_int, iT_str_bool, iT_str_str, iT_str_list, iT_str_tuple, iT_str_dict, iT_list_int, iT_list_bool, iT_list_str, iT_list_list, iT_list_tuple, iT_list_dict, iT_tuple_int, iT_tuple_bool, iT_tuple_str, iT_tuple_list, iT_tuple_tuple, iT_tuple_dict, iT_dict_int, iT_dict_bool, iT_dict_str, iT_dict_list, iT_dict_tuple, iT_dict_dict]
    refine ⟨rfl, rfl, 2 + n1, rfl, by omega, ?_⟩
    rintro r1 rfl
    simp only [sSeq, sNil, sPass, sBreak, sCont, sDrop, sRet, sRetN, sIf, sSet, sSetC, sFor, sAsg, fCon, fOp, f2, fV, fE, fCell, fT, gYes, gAnd, gOr, gNot, fAnd, fOr, fNot, fIf, fNeg, fCh, fCall, fCallK, fCons, fNil, fTup, fLst, fDnew, rNil, rCons, fBlt, fRg, fAny, fLc, fSl, fO, fNoO, gNm, gPut, fM1, fBits, kEq, kNe, enOf, wipeS, unwS, List.getElem?_cons_zero, List.getElem?_cons_succ, List.set_cons_zero, List.set_cons_succ, List.append_nil, List.nil_append, List.cons_append, if_true, if_false, if_pos, Bool.false_eq_true, true_and, and_true, exists_eq_left', exists_eq_left, exists_and_left, D.int.injEq, D.str.injEq, D.lst.injEq, Option.some.injEq, exists_const, ite_true, ite_false, Bool.not_true, Bool.not_false, Bool.false_xor, Bool.true_xor, reduceIte, tyD, x_fVar, x_fv1, x_fv2, x_tl, x_td, x_fz1, x_fz2, x_fz3, x_fzS1, x_fzS2, x_vw_non, x_vw_bl, x_vw_int, x_vw_str, x_vw_lst, x_vw_tup, x_vw_dic, x_vw_raw, x_vw_loc, x_vwL, x_vw_new, x_vw_slo, x_vwS1, x_vwS2, x_isI, x_isB, x_add_i, x_add_s, x_add_l, x_add_t, x_mul_i, x_mul_s, x_mul_l, x_sub, x_mod, x_div, x_pow, x_lt_i, x_gt_i, x_le_i, x_ge_i, x_lt_s, x_gt_s, x_le_s, x_ge_s, x_in_s, x_in_ds, x_in_di, x_in_l, x_in_t, x_ix_l, x_ix_t, x_ix_s, x_ix_ds, x_ix_di, x_is, x_sl_l, x_sl_s, x_sl_t, x_len_l, x_len_t, x_len_s, x_len_d, x_list_l, x_list_t, x_sum, x_max, x_min, x_isi, x_rg1, x_rg2, x_rg3, x_wk_l, x_wk_t, x_wk_s, x_wk_d, x_enum, x_enS, x_zip, x_ziS, x_items, x_itS, x_values, x_vaS, x_rt1, x_rt2, x_rt3, x_rtS1, x_rtS2, x_set1, x_set2, x_set3, x_cell1, x_cell2, x_cell3, x_on1, x_on2, x_onS1, x_onS2, x_onL, x_put_l, x_put_ds, x_put_di, x_app, x_isL, x_mLst, x_tp, x_gs0, x_gs1, x_par2, x_par3, x_p2S, x_p3S, x_keep1, x_keep2, x_keep3, x_wR0, x_wR1, x_uR0, x_uR1, x_vws0, x_vws1, atI_0, atI_1, atI_2, atI_3, ixN_0, ixN_1, ixN_2, ixN_3, cmp_int, cmp_str, cmp_bl, eqD_int, eqD_str, eqD_bl, tT_NoneType, tT_bool, tT_int, tT_str, tT_list, tT_tuple, tT_dict, tN_int, tN_bool, tN_str, tN_list, tN_tuple, tN_dict, iT_NoneType_int, iT_NoneType_bool, iT_NoneType_str, iT_NoneType_list, iT_NoneType_tuple, iT_NoneType_dict, iT_bool_int, iT_bool_bool, iT_bool_str, iT_bool_list, iT_bool_tuple, iT_bool_dict, iT_int_int, iT_int_bool, iT_int_str, iT_int_list, iT_int_tuple, iT_int_dict, iT_str_int, iT_str_bool, iT_str_str, iT_str_list, iT_str_tuple, iT_str_dict, iT_list_int, iT_list_bool, iT_list_str, iT_list_list, iT_list_tuple, iT_list_dict, iT_tuple_int, iT_tuple_bool, iT_tuple_str, iT_tuple_list, iT_tuple_tuple, iT_tuple_dict, iT_dict_int, iT_dict_bool, iT_dict_str, iT_dict_list, iT_dict_tuple, iT_dict_dict]
    refine ⟨2 + n1, rfl, by omega, ?_⟩
    rintro r1 rfl
    simp only [sSeq, sNil, sPass, sBreak, sCont, sDrop, sRet, sRetN, sIf, sSet, sSetC, sFor, sAsg, fCon, fOp, f2, fV, fE, fCell, fT, gYes, gAnd, gOr, gNot, fAnd, fOr, fNot, fIf, fNeg, fCh, fCall, fCallK, fCons, fNil, fTup, fLst, fDnew, rNil, rCons, fBlt, fRg, fAny, fLc, fSl, fO, fNoO, gNm, gPut, fM1, fBits, kEq, kNe, enOf, wipeS, unwS, List.getElem?_cons_zero, List.getElem?_cons_succ, List.set_cons_zero, List.set_cons_succ, List.append_nil, List.nil_append, List.cons_append, if_true, if_false, if_pos, Bool.false_eq_true, true_and, and_true, exists_eq_left', exists_eq_left, exists_and_left, D.int.injEq, D.str.injEq, D.lst.injEq, Option.some.injEq, exists_const, ite_true, ite_false, Bool.not_true, Bool.not_false, Bool.false_xor, Bool.true_xor, reduceIte, tyD, x_fVar, x_fv1, x_fv2, x_tl, x_td, x_fz1, x_fz2, x_fz3, x_fzS1, x_fzS2, x_vw_non, x_vw_bl, x_vw_int, x_vw_str, x_vw_lst, x_vw_tup, x_vw_dic, x_vw_raw, x_vw_loc, x_vwL, x_vw_new, x_vw_slo, x_vwS1, x_vwS2, x_isI, x_isB, x_add_i, x_add_s, x_add_l, x_add_t, x_mul_i, x_mul_s, x_mul_l, x_sub, x_mod, x_div, x_pow, x_lt_i, x_gt_i, x_le_i, x_ge_i, x_lt_s, x_gt_s, x_le_s, x_ge_s, x_in_s, x_in_ds, x_in_di, x_in_l, x_in_t, x_ix_l, x_ix_t, x_ix_s, x_ix_ds, x_ix_di, x_is, x_sl_l, x_sl_s, x_sl_t, x_len_l, x_len_t, x_len_s, x_len_d, x_list_l, x_list_t, x_sum, x_max, x_min, x_isi, x_rg1, x_rg2, x_rg3, x_wk_l, x_wk_t, x_wk_s, x_wk_d, x_enum, x_enS, x_zip, x_ziS, x_items, x_itS, x_values, x_vaS, x_rt1, x_rt2, x_rt3, x_rtS1, x_rtS2, x_set1, x_set2, x_set3, x_cell1, x_cell2, x_cell3, x_on1, x_on2, x_onS1, x_onS2, x_onL, x_put_l, x_put_ds, x_put_di, x_app, x_isL, x_mLst, x_tp, x_gs0, x_gs1, x_par2, x_par3, x_p2S, x_p3S, x_keep1, x_keep2, x_keep3, x_wR0, x_wR1, x_uR0, x_uR1, x_vws0, x_vws1, atI_0, atI_1, atI_2, atI_3, ixN_0, ixN_1, ixN_2, ixN_3, cmp_int, cmp_str, cmp_bl, eqD_int, eqD_str, eqD_bl, tT_NoneType, tT_bool, tT_int, tT_str, tT_list, tT_tuple, tT_dict, tN_int, tN_bool, tN_str, tN_list, tN_tuple, tN_dict, iT_NoneType_int, iT_NoneType_bool, iT_NoneType_str, iT_NoneType_list, iT_NoneType_tuple, iT_NoneType_dict, iT_bool_int, iT_bool_bool, iT_bool_str, iT_bool_list, iT_bool_tuple, iT_bool_dict, iT_int_int, iT_int_bool, iT_int_str, iT_int_list, iT_int_tuple, iT_int_dict, iT_str_int, iT_str_bool, iT_str_str, iT_str_list, iT_str_tuple, iT_str_dict, iT_list_int, iT_list_bool, iT_list_str, iT_list_list, iT_list_tuple, iT_list_dict, iT_tuple_int, iT_tuple_bool, iT_tuple_str, iT_tuple_list, iT_tuple_tuple, iT_tuple_dict, iT_dict_int, iT_dict_bool, iT_dict_str, iT_dict_list, iT_dict_tuple, iT_dict_dict, decide_true]
    refine hP _ ⟨_, _, _, _, ?_, fun j c hj e => ?_, rfl⟩
    · simp [e1]
    · rw [List.set_set, List.getElem?_set_ne (by omega)] at e
      exact e2 j c (by omega) e
  · rintro s ⟨cs', x, y, z, e1, e2, rfl⟩
    refine hN _ ?_
    simp only [sSeq, sNil, sPass, sBreak, sCont, sDrop, sRet, sRetN, sIf, sSet, sSetC, sFor, sAsg, fCon, fOp, f2, fV, fE, fCell, fT, gYes, gAnd, gOr, gNot, fAnd, fOr, fNot, fIf, fNeg, fCh, fCall, fCallK, fCons, fNil, fTup, fLst, fDnew, rNil, rCons, fBlt, fRg, fAny, fLc, fSl, fO, fNoO, gNm, gPut, fM1, fBits, kEq, kNe, enOf, wipeS, unwS, List.getElem?_cons_zero, List.getElem?_cons_succ, List.set_cons_zero, List.set_cons_succ, List.append_nil, List.nil_append, List.cons_append, if_true, if_false, if_pos, Bool.false_eq_true, true_and, and_true, exists_eq_left', exists_eq_left, exists_and_left, D.int.injEq, D.str.injEq, D.lst.injEq, Option.some.injEq, exists_const, ite_true, ite_false, Bool.not_true, Bool.not_false, Bool.false_xor, Bool.true_xor, reduceIte, tyD, x_fVar, x_fv1, x_fv2, x_tl, x_td, x_fz1, x_fz2, x_fz3, x_fzS1, x_fzS2, x_vw_non, x_vw_bl, x_vw_int, x_vw_str, x_vw_lst, x_vw_tup, x_vw_dic, x_vw_raw, x_vw_loc, x_vwL, x_vw_new, x_vw_slo, x_vwS1, x_vwS2, x_isI, x_isB, x_add_i, x_add_s, x_add_l, x_add_t, x_mul_i, x_mul_s, x_mul_l, x_sub, x_mod, x_div, x_pow, x_lt_i, x_gt_i, x_le_i, x_ge_i, x_lt_s, x_gt_s, x_le_s, x_ge_s, x_in_s, x_in_ds, x_in_di, x_in_l, x_in_t, x_ix_l, x_ix_t, x_ix_s, x_ix_ds, x_ix_di, x_is, x_sl_l, x_sl_s, x_sl_t, x_len_l, x_len_t, x_len_s, x_len_d, x_list_l, x_list_t, x_sum, x_max, x_min, x_isi, x_rg1, x_rg2, x_rg3, x_wk_l, x_wk_t, x_wk_s, x_wk_d, x_enum, x_enS, x_zip, x_ziS, x_items, x_itS, x_values, x_vaS, x_rt1, x_rt2, x_rt3, x_rtS1, x_rtS2, x_set1, x_set2, x_set3, x_cell1, x_cell2, x_cell3, x_on1, x_on2, x_onS1, x_onS2, x_onL, x_put_l, x_put_ds, x_put_di, x_app, x_isL, x_mLst, x_tp, x_gs0, x_gs1, x_par2, x_par3, x_p2S, x_p3S, x_keep1, x_keep2, x_keep3, x_wR0, x_wR1, x_uR0, x_uR1, x_vws0, x_vws1, atI_0, atI_1, atI_2, atI_3, ixN_0, ixN_1, ixN_2, ixN_3, cmp_int, cmp_str, cmp_bl, eqD_int, eqD_str, eqD_bl, tT_NoneType, tT_bool, tT_int, tT_str, tT_list, tT_tuple, tT_dict, tN_int, tN_bool, tN_str, tN_list, tN_tuple, tN_dict, iT_NoneType_int, iT_NoneType_bool, iT_NoneType_str, iT_NoneType_list, iT_NoneType_tuple, iT_NoneType_dict, iT_bool_int, iT_bool_bool, iT_bool_str, iT_bool_list, iT_bool_tuple, iT_bool_dict, iT_int_int, iT_int_bool, iT_int_str, iT_int_list, iT_int_tuple, iT_int_dict, iT_str_int, iT_str_bool, iT_str_str, iT_str_list, iT_str_tuple, iT_str_dict, iT_list_int, iT_list_bool, iT_list_str, iT_list_list, iT_list_tuple, iT_list_dict, iT_tuple_int, iT_tuple_bool, iT_tuple_str, iT_tuple_list, iT_tuple_tuple, iT_tuple_dict, iT_dict_int, iT_dict_bool, iT_dict_str, iT_dict_list, iT_dict_tuple, iT_dict_dict]
    exact h _
theorem ch_last (i : Nat) : ∃ r, chL i = r ++ [D.lst ((pasc i).map D.int)] := ⟨(List.range i).map fun i => dI (pasc i), by unfold chL; rw [List.range_succ, List.map_append]; rfl⟩
theorem zip_ints : ∀ (a b : List Int), (zipD (a.map D.int) (b.map D.int)).filterMap (fun d => match d with | .tup [.int x, .int y] => some (.int (x + y)) | _ => none) = (List.zipWith (· + ·) a b).map D.int
  | [], _ => rfl
  | _ :: _, [] => rfl
  | a :: as, b :: bs => congrArg (D.int (a + b) :: ·) (zip_ints as bs)
theorem pasc_len : ∀ n, (pasc n).length = n + 1
  | 0 => rfl
  | n + 1 => by
    unfold pasc
    simp [pasc_len n]
theorem zip_mem {a b : List Int} {d : D} (h : d ∈ zipD (a.map D.int) (b.map D.int)) : ∃ x y, d = .tup [.int x, .int y] := by
  unfold zipD at h
  obtain ⟨i, hi⟩ := List.mem_iff_getElem?.mp h
  rw [List.getElem?_zipWith] at hi
  cases e1 : (a.map D.int)[i]? with
  | none => rw [e1] at hi; cases hi
  | some x =>
    cases e2 : (b.map D.int)[i]? with
    | none => rw [e1, e2] at hi; cases hi
    | some y =>
      rw [e1, e2] at hi
      rw [List.getElem?_map] at e1 e2
      cases q1 : a[i]? with
      | none => rw [q1] at e1; cases e1
      | some p =>
        cases q2 : b[i]? with
        | none => rw [q2] at e2; cases e2
        | some q =>
          rw [q1] at e1; rw [q2] at e2
          cases e1; cases e2
          exact ⟨p, q, (Option.some.inj hi).symm⟩
theorem law_choices : ∀ ds S G, c_choices ds S G → fb_choices (enOf G) (startS N_choices ds S) := by
  rintro ds S G ⟨n, rfl, hn, h⟩
  show fb_choices (enOf G) ⟨[.val (.int n), .no, .no, .no, .no], S⟩
  unfold fb_choices
  refine seq_i fun N0 hN0 => ?_
  simp only [sSeq, sNil, sPass, sBreak, sCont, sDrop, sRet, sRetN, sIf, sSet, sSetC, sFor, sAsg, fCon, fOp, f2, fV, fE, fCell, fT, gYes, gAnd, gOr, gNot, fAnd, fOr, fNot, fIf, fNeg, fCh, fCall, fCallK, fCons, fNil, fTup, fLst, fDnew, rNil, rCons, fBlt, fRg, fAny, fLc, fSl, fO, fNoO, gNm, gPut, fM1, fBits, kEq, kNe, enOf, wipeS, unwS, List.getElem?_cons_zero, List.getElem?_cons_succ, List.set_cons_zero, List.set_cons_succ, List.append_nil, List.nil_append, List.cons_append, if_true, if_false, if_pos, Bool.false_eq_true, true_and, and_true, exists_eq_left', exists_eq_left, exists_and_left, D.int.injEq, D.str.injEq, D.lst.injEq, Option.some.injEq, exists_const, ite_true, ite_false, Bool.not_true, Bool.not_false, Bool.false_xor, Bool.true_xor, reduceIte, tyD, x_fVar, x_fv1, x_fv2, x_tl, x_td, x_fz1, x_fz2, x_fz3, x_fzS1, x_fzS2, x_vw_non, x_vw_bl, x_vw_int, x_vw_str, x_vw_lst, x_vw_tup, x_vw_dic, x_vw_raw, x_vw_loc, x_vwL, x_vw_new, x_vw_slo, x_vwS1, x_vwS2, x_isI, x_isB, x_add_i, x_add_s, x_add_l, x_add_t, x_mul_i, x_mul_s, x_mul_l, x_sub, x_mod, x_div, x_pow, x_lt_i, x_gt_i, x_le_i, x_ge_i, x_lt_s, x_gt_s, x_le_s, x_ge_s, x_in_s, x_in_ds, x_in_di, x_in_l, x_in_t, x_ix_l, x_ix_t, x_ix_s, x_ix_ds, x_ix_di, x_is, x_sl_l, x_sl_s, x_sl_t, x_len_l, x_len_t, x_len_s, x_len_d, x_list_l, x_list_t, x_sum, x_max, x_min, x_isi, x_rg1, x_rg2, x_rg3, x_wk_l, x_wk_t, x_wk_s, x_wk_d, x_enum, x_enS, x_zip, x_ziS, x_items, x_itS, x_values, x_vaS, x_rt1, x_rt2, x_rt3, x_rtS1, x_rtS2, x_set1, x_set2, x_set3, x_cell1, x_cell2, x_cell3, x_on1, x_on2, x_onS1, x_onS2, x_onL, x_put_l, x_put_ds, x_put_di, x_app, x_isL, x_mLst, x_tp, x_gs0, x_gs1, x_par2, x_par3, x_p2S, x_p3S, x_keep1, x_keep2, x_keep3, x_wR0, x_wR1, x_uR0, x_uR1, x_vws0, x_vws1, atI_0, atI_1, atI_2, atI_3, ixN_0, ixN_1, ixN_2, ixN_3, cmp_int, cmp_str, cmp_bl, eqD_int, eqD_str, eqD_bl, tT_NoneType, tT_bool, tT_int, tT_str, tT_list, tT_tuple, tT_dict, tN_int, tN_bool, tN_str, tN_list, tN_tuple, tN_dict, iT_NoneType_int, iT_NoneType_bool, iT_NoneType_str, iT_NoneType_list, iT_NoneType_tuple, iT_NoneType_dict, iT_bool_int, iT_bool_bool, iT_bool_str, iT_bool_list, iT_bool_tuple, iT_bool_dict, iT_int_int, iT_int_bool, iT_int_str, iT_int_list, iT_int_tuple, iT_int_dict, iT_str_int, iT_str_bool, iT_str_str, iT_str_list, iT_str_tuple, iT_str_dict, iT_list_int, iT_list_bool, iT_list_str, iT_list_list, iT_list_tuple, iT_list_dict, iT_tuple_int, iT_tuple_bool, iT_tuple_str, iT_tuple_list, iT_tuple_tuple, iT_tuple_dict, iT_dict_int, iT_dict_bool, iT_dict_str, iT_dict_list, iT_dict_tuple, iT_dict_dict]
  refine ⟨by decide, by decide, hN0 _ ?_⟩
  refine seq_i fun N hN => ?_
  simp only [sSeq, sNil, sPass, sBreak, sCont, sDrop, sRet, sRetN, sIf, sSet, sSetC, sFor, sAsg, fCon, fOp, f2, fV, fE, fCell, fT, gYes, gAnd, gOr, gNot, fAnd, fOr, fNot, fIf, fNeg, fCh, fCall, fCallK, fCons, fNil, fTup, fLst, fDnew, rNil, rCons, fBlt, fRg, fAny, fLc, fSl, fO, fNoO, gNm, gPut, fM1, fBits, kEq, kNe, enOf, wipeS, unwS, List.getElem?_cons_zero, List.getElem?_cons_succ, List.set_cons_zero, List.set_cons_succ, List.append_nil, List.nil_append, List.cons_append, if_true, if_false, if_pos, Bool.false_eq_true, true_and, and_true, exists_eq_left', exists_eq_left, exists_and_left, D.int.injEq, D.str.injEq, D.lst.injEq, Option.some.injEq, exists_const, ite_true, ite_false, Bool.not_true, Bool.not_false, Bool.false_xor, Bool.true_xor, reduceIte, tyD, x_fVar, x_fv1, x_fv2, x_tl, x_td, x_fz1, x_fz2, x_fz3, x_fzS1, x_fzS2, x_vw_non, x_vw_bl, x_vw_int, x_vw_str, x_vw_lst, x_vw_tup, x_vw_dic, x_vw_raw, x_vw_loc, x_vwL, x_vw_new, x_vw_slo, x_vwS1, x_vwS2, x_isI, x_isB, x_add_i, x_add_s, x_add_l, x_add_t, x_mul_i, x_mul_s, x_mul_l, x_sub, x_mod, x_div, x_pow, x_lt_i, x_gt_i, x_le_i, x_ge_i, x_lt_s, x_gt_s, x_le_s, x_ge_s, x_in_s, x_in_ds, x_in_di, x_in_l, x_in_t, x_ix_l, x_ix_t, x_ix_s, x_ix_ds, x_ix_di, x_is, x_sl_l, x_sl_s, x_sl_t, x_len_l, x_len_t, x_len_s, x_len_d, x_list_l, x_list_t, x_sum, x_max, x_min, x_isi, x_rg1, x_rg2, x_rg3, x_wk_l, x_wk_t, x_wk_s, x_wk_d, x_enum, x_enS, x_zip, x_ziS, x_items, x_itS, x_values, x_vaS, x_rt1, x_rt2, x_rt3, x_rtS1, x_rtS2, x_set1, x_set2, x_set3, x_cell1, x_cell2, x_cell3, x_on1, x_on2, x_onS1, x_onS2, x_onL, x_put_l, x_put_ds, x_put_di, x_app, x_isL, x_mLst, x_tp, x_gs0, x_gs1, x_par2, x_par3, x_p2S, x_p3S, x_keep1, x_keep2, x_keep3, x_wR0, x_wR1, x_uR0, x_uR1, x_vws0, x_vws1, atI_0, atI_1, atI_2, atI_3, ixN_0, ixN_1, ixN_2, ixN_3, cmp_int, cmp_str, cmp_bl, eqD_int, eqD_str, eqD_bl, tT_NoneType, tT_bool, tT_int, tT_str, tT_list, tT_tuple, tT_dict, tN_int, tN_bool, tN_str, tN_list, tN_tuple, tN_dict, iT_NoneType_int, iT_NoneType_bool, iT_NoneType_str, iT_NoneType_list, iT_NoneType_tuple, iT_NoneType_dict, iT_bool_int, iT_bool_bool, iT_bool_str, iT_bool_list, iT_bool_tuple, iT_bool_dict, iT_int_int, iT_int_bool, iT_int_str, iT_int_list, iT_int_tuple, iT_int_dict, iT_str_int, iT_str_bool, iT_str_str, iT_str_list, iT_str_tuple, iT_str_dict, iT_list_int, iT_list_bool, iT_list_str, iT_list_list, iT_list_tuple, iT_list_dict, iT_tuple_int, iT_tuple_bool, iT_tuple_str, iT_tuple_list, iT_tuple_tuple, iT_tuple_dict, iT_dict_int, iT_dict_bool, iT_dict_str, iT_dict_list, iT_dict_tuple, iT_dict_dict]
  refine ⟨small62_nat (by omega), ?_⟩
  refine loop_inv (fun i s => ∃ x, s = ⟨[.val (.int n), .own (.lst (chL i)), x, .no, .no], S⟩) ⟨.no, rfl⟩ ?_ ?_
  · rintro i d s hd ⟨x, rfl⟩ P hP
    obtain ⟨hi, rfl⟩ := upI_at hd
    obtain ⟨r, hr⟩ := ch_last i
    have hl : atI (chL i) (-1) = some (D.lst ((pasc i).map D.int)) := by rw [hr]; exact atI_last
    simp only [sSeq, sNil, sPass, sBreak, sCont, sDrop, sRet, sRetN, sIf, sSet, sSetC, sFor, sAsg, fCon, fOp, f2, fV, fE, fCell, fT, gYes, gAnd, gOr, gNot, fAnd, fOr, fNot, fIf, fNeg, fCh, fCall, fCallK, fCons, fNil, fTup, fLst, fDnew, rNil, rCons, fBlt, fRg, fAny, fLc, fSl, fO, fNoO, gNm, gPut, fM1, fBits, kEq, kNe, enOf, wipeS, unwS, List.getElem?_cons_zero, List.getElem?_cons_succ, List.set_cons_zero, List.set_cons_succ, List.append_nil, List.nil_append, List.cons_append, if_true, if_false, if_pos, Bool.false_eq_true, true_and, and_true, exists_eq_left', exists_eq_left, exists_and_left, D.int.injEq, D.str.injEq, D.lst.injEq, Option.some.injEq, exists_const, ite_true, ite_false, Bool.not_true, Bool.not_false, Bool.false_xor, Bool.true_xor, reduceIte, tyD, x_fVar, x_fv1, x_fv2, x_tl, x_td, x_fz1, x_fz2, x_fz3, x_fzS1, x_fzS2, x_vw_non, x_vw_bl, x_vw_int, x_vw_str, x_vw_lst, x_vw_tup, x_vw_dic, x_vw_raw, x_vw_loc, x_vwL, x_vw_new, x_vw_slo, x_vwS1, x_vwS2, x_isI, x_isB, x_add_i, x_add_s, x_add_l, x_add_t, x_mul_i, x_mul_s, x_mul_l, x_sub, x_mod, x_div, x_pow, x_lt_i, x_gt_i, x_le_i, x_ge_i, x_lt_s, x_gt_s, x_le_s, x_ge_s, x_in_s, x_in_ds, x_in_di, x_in_l, x_in_t, x_ix_l, x_ix_t, x_ix_s, x_ix_ds, x_ix_di, x_is, x_sl_l, x_sl_s, x_sl_t, x_len_l, x_len_t, x_len_s, x_len_d, x_list_l, x_list_t, x_sum, x_max, x_min, x_isi, x_rg1, x_rg2, x_rg3, x_wk_l, x_wk_t, x_wk_s, x_wk_d, x_enum, x_enS, x_zip, x_ziS, x_items, x_itS, x_values, x_vaS, x_rt1, x_rt2, x_rt3, x_rtS1, x_rtS2, x_set1, x_set2, x_set3, x_cell1, x_cell2, x_cell3, x_on1, x_on2, x_onS1, x_onS2, x_onL, x_put_l, x_put_ds, x_put_di, x_app, x_isL, x_mLst, x_tp, x_gs0, x_gs1, x_par2, x_par3, x_p2S, x_p3S, x_keep1, x_keep2, x_keep3, x_wR0, x_wR1, x_uR0, x_uR1, x_vws0, x_vws1, atI_0, atI_1, atI_2, atI_3, ixN_0, ixN_1, ixN_2, ixN_3, cmp_int, cmp_str, cmp_bl, eqD_int, eqD_str, eqD_bl, tT_NoneType, tT_bool, tT_int, tT_str, tT_list, tT_tuple, tT_dict, tN_int, tN_bool, tN_str, tN_list, tN_tuple, tN_dict, iT_NoneType_int, iT_NoneType_bool, iT_NoneType_str, iT_NoneType_list, iT_NoneType_tuple, iT_NoneType_dict, iT_bool_int, iT_bool_bool, iT_bool_str, iT_bool_list, iT_bool_tuple, iT_bool_dict, iT_int_int, iT_int_bool, iT_int_str, iT_int_list, iT_int_tuple, iT_int_dict, iT_str_int, iT_str_bool, iT_str_str, iT_str_list, iT_str_tuple, iT_str_dict, iT_list_int, iT_list_bool, iT_list_str, iT_list_list, iT_list_tuple, iT_list_dict, iT_tuple_int, iT_tuple_bool, iT_tuple_str, iT_tuple_list, iT_tuple_tuple, iT_tuple_dict, iT_dict_int, iT_dict_bool, iT_dict_str, iT_dict_list, iT_dict_tuple, iT_dict_dict, hl, cut_map, cut_tail]
    have hlen : (zipD ((pasc i).map D.int) ((pasc i).map D.int).tail).length ≤ i + 1 := by
      unfold zipD
      rw [List.length_zipWith, List.length_map, pasc_len]
      omega
    refine ⟨by rw [szl]; simp, ?_⟩
    refine comp_map (fun d => match d with | .tup [.int x, .int y] => some (.int (x + y)) | _ => none) (by rw [szl]; omega) ?_ ?_
    · intro d hd P hP
      rw [← List.map_tail] at hd
      obtain ⟨p, q, rfl⟩ := zip_mem hd
      simp only [sSeq, sNil, sPass, sBreak, sCont, sDrop, sRet, sRetN, sIf, sSet, sSetC, sFor, sAsg, fCon, fOp, f2, fV, fE, fCell, fT, gYes, gAnd, gOr, gNot, fAnd, fOr, fNot, fIf, fNeg, fCh, fCall, fCallK, fCons, fNil, fTup, fLst, fDnew, rNil, rCons, fBlt, fRg, fAny, fLc, fSl, fO, fNoO, gNm, gPut, fM1, fBits, kEq, kNe, enOf, wipeS, unwS, List.getElem?_cons_zero, List.getElem?_cons_succ, List.set_cons_zero, List.set_cons_succ, List.append_nil, List.nil_append, List.cons_append, if_true, if_false, if_pos, Bool.false_eq_true, true_and, and_true, exists_eq_left', exists_eq_left, exists_and_left, D.int.injEq, D.str.injEq, D.lst.injEq, Option.some.injEq, exists_const, ite_true, ite_false, Bool.not_true, Bool.not_false, Bool.false_xor, Bool.true_xor, reduceIte, tyD, x_fVar, x_fv1, x_fv2, x_tl, x_td, x_fz1, x_fz2, x_fz3, x_fzS1, x_fzS2, x_vw_non, x_vw_bl, x_vw_int, x_vw_str, x_vw_lst, x_vw_tup, x_vw_dic, x_vw_raw, x_vw_loc, x_vwL, x_vw_new, x_vw_slo, x_vwS1, x_vwS2, x_isI, x_isB, x_add_i, x_add_s, x_add_l, x_add_t, x_mul_i, x_mul_s, x_mul_l, x_sub, x_mod, x_div, x_pow, x_lt_i, x_gt_i, x_le_i, x_ge_i, x_lt_s, x_gt_s, x_le_s, x_ge_s, x_in_s, x_in_ds, x_in_di, x_in_l, x_in_t, x_ix_l, x_ix_t, x_ix_s, x_ix_ds, x_ix_di, x_is, x_sl_l, x_sl_s, x_sl_t, x_len_l, x_len_t, x_len_s, x_len_d, x_list_l, x_list_t, x_sum, x_max, x_min, x_isi, x_rg1, x_rg2, x_rg3, x_wk_l, x_wk_t, x_wk_s, x_wk_d, x_enum, x_enS, x_zip, x_ziS, x_items, x_itS, x_values, x_vaS, x_rt1, x_rt2, x_rt3, x_rtS1, x_rtS2, x_set1, x_set2, x_set3, x_cell1, x_cell2, x_cell3, x_on1, x_on2, x_onS1, x_onS2, x_onL, x_put_l, x_put_ds, x_put_di, x_app, x_isL, x_mLst, x_tp, x_gs0, x_gs1, x_par2, x_par3, x_p2S, x_p3S, x_keep1, x_keep2, x_keep3, x_wR0, x_wR1, x_uR0, x_uR1, x_vws0, x_vws1, atI_0, atI_1, atI_2, atI_3, ixN_0, ixN_1, ixN_2, ixN_3, cmp_int, cmp_str, cmp_bl, eqD_int, eqD_str, eqD_bl, tT_NoneType, tT_bool, tT_int, tT_str, tT_list, tT_tuple, tT_dict, tN_int, tN_bool, tN_str, tN_list, tN_tuple, tN_dict, iT_NoneType_int, iT_NoneType_bool, iT_NoneType_str, iT_NoneType_list, iT_NoneType_tuple, iT_NoneType_dict, iT_bool_int, iT_bool_bool, iT_bool_str, iT_bool_list, iT_bool_tuple, iT_bool_dict, iT_int_int, iT_int_bool, iT_int_str, iT_int_list, iT_int_tuple, iT_int_dict, iT_str_int, iT_str_bool, iT_str_str, iT_str_list, iT_str_tuple, iT_str_dict, iT_list_int, iT_list_bool, iT_list_str, iT_list_list, iT_list_tuple, iT_list_dict, iT_tuple_int, iT_tuple_bool, iT_tuple_str, iT_tuple_list, iT_tuple_tuple, iT_tuple_dict, iT_dict_int, iT_dict_bool, iT_dict_str, iT_dict_list, iT_dict_tuple, iT_dict_dict, List.length_cons, List.length_nil]
      exact hP
    · rw [← List.map_tail, zip_ints]
      simp only [sSeq, sNil, sPass, sBreak, sCont, sDrop, sRet, sRetN, sIf, sSet, sSetC, sFor, sAsg, fCon, fOp, f2, fV, fE, fCell, fT, gYes, gAnd, gOr, gNot, fAnd, fOr, fNot, fIf, fNeg, fCh, fCall, fCallK, fCons, fNil, fTup, fLst, fDnew, rNil, rCons, fBlt, fRg, fAny, fLc, fSl, fO, fNoO, gNm, gPut, fM1, fBits, kEq, kNe, enOf, wipeS, unwS, List.getElem?_cons_zero, List.getElem?_cons_succ, List.set_cons_zero, List.set_cons_succ, List.append_nil, List.nil_append, List.cons_append, if_true, if_false, if_pos, Bool.false_eq_true, true_and, and_true, exists_eq_left', exists_eq_left, exists_and_left, D.int.injEq, D.str.injEq, D.lst.injEq, Option.some.injEq, exists_const, ite_true, ite_false, Bool.not_true, Bool.not_false, Bool.false_xor, Bool.true_xor, reduceIte, tyD, x_fVar, x_fv1, x_fv2, x_tl, x_td, x_fz1, x_fz2, x_fz3, x_fzS1, x_fzS2, x_vw_non, x_vw_bl, x_vw_int, x_vw_str, x_vw_lst, x_vw_tup, x_vw_dic, x_vw_raw, x_vw_loc, x_vwL, x_vw_new, x_vw_slo, x_vwS1, x_vwS2, x_isI, x_isB, x_add_i, x_add_s, x_add_l, x_add_t, x_mul_i, x_mul_s, x_mul_l, x_sub, x_mod, x_div, x_pow, x_lt_i, x_gt_i, x_le_i, x_ge_i, x_lt_s, x_gt_s, x_le_s, x_ge_s, x_in_s, x_in_ds, x_in_di, x_in_l, x_in_t, x_ix_l, x_ix_t, x_ix_s, x_ix_ds, x_ix_di, x_is, x_sl_l, x_sl_s, x_sl_t, x_len_l, x_len_t, x_len_s, x_len_d, x_list_l, x_list_t, x_sum, x_max, x_min, x_isi, x_rg1, x_rg2, x_rg3, x_wk_l, x_wk_t, x_wk_s, x_wk_d, x_enum, x_enS, x_zip, x_ziS, x_items, x_itS, x_values, x_vaS, x_rt1, x_rt2, x_rt3, x_rtS1, x_rtS2, x_set1, x_set2, x_set3, x_cell1, x_cell2, x_cell3, x_on1, x_on2, x_onS1, x_onS2, x_onL, x_put_l, x_put_ds, x_put_di, x_app, x_isL, x_mLst, x_tp, x_gs0, x_gs1, x_par2, x_par3, x_p2S, x_p3S, x_keep1, x_keep2, x_keep3, x_wR0, x_wR1, x_uR0, x_uR1, x_vws0, x_vws1, atI_0, atI_1, atI_2, atI_3, ixN_0, ixN_1, ixN_2, ixN_3, cmp_int, cmp_str, cmp_bl, eqD_int, eqD_str, eqD_bl, tT_NoneType, tT_bool, tT_int, tT_str, tT_list, tT_tuple, tT_dict, tN_int, tN_bool, tN_str, tN_list, tN_tuple, tN_dict, iT_NoneType_int, iT_NoneType_bool, iT_NoneType_str, iT_NoneType_list, iT_NoneType_tuple, iT_NoneType_dict, iT_bool_int, iT_bool_bool, iT_bool_str, iT_bool_list, iT_bool_tuple, iT_bool_dict, iT_int_int, iT_int_bool, iT_int_str, iT_int_list, iT_int_tuple, iT_int_dict, iT_str_int, iT_str_bool, iT_str_str, iT_str_list, iT_str_tuple, iT_str_dict, iT_list_int, iT_list_bool, iT_list_str, iT_list_list, iT_list_tuple, iT_list_dict, iT_tuple_int, iT_tuple_bool, iT_tuple_str, iT_tuple_list, iT_tuple_tuple, iT_tuple_dict, iT_dict_int, iT_dict_bool, iT_dict_str, iT_dict_list, iT_dict_tuple, iT_dict_dict]
      have hz : ((List.zipWith (· + ·) (pasc i) (pasc i).tail).map D.int).length ≤ i + 1 := by
        rw [List.length_map, List.length_zipWith, pasc_len]; omega
      have hc : (chL i).length = i + 1 := by unfold chL; simp
      have e : chL i ++ [D.lst (D.int 1 :: ((List.zipWith (· + ·) (pasc i) (pasc i).tail).map D.int ++ [D.int 1]))] = chL (i + 1) := by
        unfold chL
        rw [List.range_succ (n := i + 1), List.map_append]
        congr 1
        show [_] = [dI ([1] ++ List.zipWith (· + ·) (pasc i) (pasc i).tail ++ [1])]
        unfold dI
        rw [List.map_append, List.map_append]
        rfl
      rw [e]
      simp only [List.length_cons, List.length_nil, szl]
      exact ⟨by omega, by omega, by omega, by omega, hP _ ⟨_, rfl⟩⟩
  · rintro s ⟨x, rfl⟩
    refine hN _ ?_
    simp only [sSeq, sNil, sPass, sBreak, sCont, sDrop, sRet, sRetN, sIf, sSet, sSetC, sFor, sAsg, fCon, fOp, f2, fV, fE, fCell, fT, gYes, gAnd, gOr, gNot, fAnd, fOr, fNot, fIf, fNeg, fCh, fCall, fCallK, fCons, fNil, fTup, fLst, fDnew, rNil, rCons, fBlt, fRg, fAny, fLc, fSl, fO, fNoO, gNm, gPut, fM1, fBits, kEq, kNe, enOf, wipeS, unwS, List.getElem?_cons_zero, List.getElem?_cons_succ, List.set_cons_zero, List.set_cons_succ, List.append_nil, List.nil_append, List.cons_append, if_true, if_false, if_pos, Bool.false_eq_true, true_and, and_true, exists_eq_left', exists_eq_left, exists_and_left, D.int.injEq, D.str.injEq, D.lst.injEq, Option.some.injEq, exists_const, ite_true, ite_false, Bool.not_true, Bool.not_false, Bool.false_xor, Bool.true_xor, reduceIte, tyD, x_fVar, x_fv1, x_fv2, x_tl, x_td, x_fz1, x_fz2, x_fz3, x_fzS1, x_fzS2, x_vw_non, x_vw_bl, x_vw_int, x_vw_str, x_vw_lst, x_vw_tup, x_vw_dic, x_vw_raw, x_vw_loc, x_vwL, x_vw_new, x_vw_slo, x_vwS1, x_vwS2, x_isI, x_isB, x_add_i, x_add_s, x_add_l, x_add_t, x_mul_i, x_mul_s, x_mul_l, x_sub, x_mod, x_div, x_pow, x_lt_i, x_gt_i, x_le_i, x_ge_i, x_lt_s, x_gt_s, x_le_s, x_ge_s, x_in_s, x_in_ds, x_in_di, x_in_l, x_in_t, x_ix_l, x_ix_t, x_ix_s, x_ix_ds, x_ix_di, x_is, x_sl_l, x_sl_s, x_sl_t, x_len_l, x_len_t, x_len_s, x_len_d, x_list_l, x_list_t, x_sum, x_max, x_min, x_isi, x_rg1, x_rg2, x_rg3, x_wk_l, x_wk_t, x_wk_s, x_wk_d, x_enum, x_enS, x_zip, x_ziS, x_items, x_itS, x_values, x_vaS, x_rt1, x_rt2, x_rt3, x_rtS1, x_rtS2, x_set1, x_set2, x_set3, x_cell1, x_cell2, x_cell3, x_on1, x_on2, x_onS1, x_onS2, x_onL, x_put_l, x_put_ds, x_put_di, x_app, x_isL, x_mLst, x_tp, x_gs0, x_gs1, x_par2, x_par3, x_p2S, x_p3S, x_keep1, x_keep2, x_keep3, x_wR0, x_wR1, x_uR0, x_uR1, x_vws0, x_vws1, atI_0, atI_1, atI_2, atI_3, ixN_0, ixN_1, ixN_2, ixN_3, cmp_int, cmp_str, cmp_bl, eqD_int, eqD_str, eqD_bl, tT_NoneType, tT_bool, tT_int, tT_str, tT_list, tT_tuple, tT_dict, tN_int, tN_bool, tN_str, tN_list, tN_tuple, tN_dict, iT_NoneType_int, iT_NoneType_bool, iT_NoneType_str, iT_NoneType_list, iT_NoneType_tuple, iT_NoneType_dict, iT_bool_int, iT_bool_bool, iT_bool_str, iT_bool_list, iT_bool_tuple, iT_bool_dict, iT_int_int, iT_int_bool, iT_int_str, iT_int_list, iT_int_tuple, iT_int_dict, iT_str_int, iT_str_bool, iT_str_str, iT_str_list, iT_str_tuple, iT_str_dict, iT_list_int, iT_list_bool, iT_list_str, iT_list_list, iT_list_tuple, iT_list_dict, iT_tuple_int, iT_tuple_bool, iT_tuple_str, iT_tuple_list, iT_tuple_tuple, iT_tuple_dict, iT_dict_int, iT_dict_bool, iT_dict_str, iT_dict_list, iT_dict_tuple, iT_dict_dict]
    have : (upI 0 (n : Int).toNat).length = n := by rw [upI_len]; omega
    rw [this]
    exact h
theorem law_rings_by_number : ∀ ds S G, c_rings_by_number ds S G → fb_rings_by_number (enOf G) (startS N_rings_by_number ds S) := by
  rintro ds S G ⟨n, rfl, hn, h⟩
  show fb_rings_by_number (enOf G) ⟨[.val (.int n), .no, .no, .no, .no], S⟩
  unfold fb_rings_by_number
  refine seq_i fun N0 hN0 => ?_
  simp only [sSeq, sNil, sPass, sBreak, sCont, sDrop, sRet, sRetN, sIf, sSet, sSetC, sFor, sAsg, fCon, fOp, f2, fV, fE, fCell, fT, gYes, gAnd, gOr, gNot, fAnd, fOr, fNot, fIf, fNeg, fCh, fCall, fCallK, fCons, fNil, fTup, fLst, fDnew, rNil, rCons, fBlt, fRg, fAny, fLc, fSl, fO, fNoO, gNm, gPut, fM1, fBits, kEq, kNe, enOf, wipeS, unwS, List.getElem?_cons_zero, List.getElem?_cons_succ, List.set_cons_zero, List.set_cons_succ, List.append_nil, List.nil_append, List.cons_append, if_true, if_false, if_pos, Bool.false_eq_true, true_and, and_true, exists_eq_left', exists_eq_left, exists_and_left, D.int.injEq, D.str.injEq, D.lst.injEq, Option.some.injEq, exists_const, ite_true, ite_false, Bool.not_true, Bool.not_false, Bool.false_xor, Bool.true_xor, reduceIte, tyD, x_fVar, x_fv1, x_fv2, x_tl, x_td, x_fz1, x_fz2, x_fz3, x_fzS1, x_fzS2, x_vw_non, x_vw_bl, x_vw_int, x_vw_str, x_vw_lst, x_vw_tup, x_vw_dic, x_vw_raw, x_vw_loc, x_vwL, x_vw_new, x_vw_slo, x_vwS1, x_vwS2, x_isI, x_isB, x_add_i, x_add_s, x_add_l, x_add_t, x_mul_i, x_mul_s, x_mul_l, x_sub, x_mod, x_div, x_pow, x_lt_i, x_gt_i, x_le_i, x_ge_i, x_lt_s, x_gt_s, x_le_s, x_ge_s, x_in_s, x_in_ds, x_in_di, x_in_l, x_in_t, x_ix_l, x_ix_t, x_ix_s, x_ix_ds, x_ix_di, x_is, x_sl_l, x_sl_s, x_sl_t, x_len_l, x_len_t, x_len_s, x_len_d, x_list_l, x_list_t, x_sum, x_max, x_min, x_isi, x_rg1, x_rg2, x_rg3, x_wk_l, x_wk_t, x_wk_s, x_wk_d, x_enum, x_enS, x_zip, x_ziS, x_items, x_itS, x_values, x_vaS, x_rt1, x_rt2, x_rt3, x_rtS1, x_rtS2, x_set1, x_set2, x_set3, x_cell1, x_cell2, x_cell3, x_on1, x_on2, x_onS1, x_onS2, x_onL, x_put_l, x_put_ds, x_put_di, x_app, x_isL, x_mLst, x_tp, x_gs0, x_gs1, x_par2, x_par3, x_p2S, x_p3S, x_keep1, x_keep2, x_keep3, x_wR0, x_wR1, x_uR0, x_uR1, x_vws0, x_vws1, atI_0, atI_1, atI_2, atI_3, ixN_0, ixN_1, ixN_2, ixN_3, cmp_int, cmp_str, cmp_bl, eqD_int, eqD_str, eqD_bl, tT_NoneType, tT_bool, tT_int, tT_str, tT_list, tT_tuple, tT_dict, tN_int, tN_bool, tN_str, tN_list, tN_tuple, tN_dict, iT_NoneType_int, iT_NoneType_bool, iT_NoneType_str, iT_NoneType_list, iT_NoneType_tuple, iT_NoneType_dict, iT_bool_int, iT_bool_bool, iT_bool_str, iT_bool_list, iT_bool_tuple, iT_bool_dict, iT_int_int, iT_int_bool, iT_int_str, iT_int_list, iT_int_tuple, iT_int_dict, iT_str_int, iT_str_bool, iT_str_str, iT_str_list, iT_str_tuple, iT_str_dict, iT_list_int, iT_list_bool, iT_list_str, iT_list_list, iT_list_tuple, iT_list_dict, iT_tuple_int, iT_tuple_bool, iT_tuple_str, iT_tuple_list, iT_tuple_tuple, iT_tuple_dict, iT_dict_int, iT_dict_bool, iT_dict_str, iT_dict_list, iT_dict_tuple, iT_dict_dict, List.flatten_replicate_singleton, Int.toNat_natCast, List.length_cons, List.length_nil, List.length_replicate, szl]
  have e0 : rgL n 2 = [D.lst (D.int 1 :: List.replicate n (D.int 0)), D.lst (List.replicate (n + 1) (D.int 0))] := by
    have z0 : (List.range n).map (rgF 0 ∘ (· + 1)) = List.replicate n 0 := by
      rw [List.eq_replicate_iff]
      refine ⟨by simp, fun b hb => ?_⟩
      obtain ⟨i, _, rfl⟩ := List.mem_map.mp hb
      rfl
    have z1 : (List.range (n + 1)).map (rgF 1) = List.replicate (n + 1) 0 := by
      rw [List.eq_replicate_iff]
      refine ⟨by simp, fun b hb => ?_⟩
      obtain ⟨i, _, rfl⟩ := List.mem_map.mp hb
      rfl
    show [dI (rgR n 0), dI (rgR n 1)] = _
    unfold dI rgR
    rw [z1, List.range_succ_eq_map, List.map_cons, List.map_map, z0, List.map_cons, List.map_replicate, List.map_replicate]
    rfl
  have e1 : ((n : Int) + 1).toNat = n + 1 := by omega
  rw [e1, ← e0]
  refine ⟨by decide, by decide, ⟨by omega, by omega, by omega⟩, by omega, by decide, ⟨by omega, by omega, by omega⟩, by decide, hN0 _ ?_⟩
  refine seq_i fun N1 hN1 => ?_
  simp only [sSeq, sNil, sPass, sBreak, sCont, sDrop, sRet, sRetN, sIf, sSet, sSetC, sFor, sAsg, fCon, fOp, f2, fV, fE, fCell, fT, gYes, gAnd, gOr, gNot, fAnd, fOr, fNot, fIf, fNeg, fCh, fCall, fCallK, fCons, fNil, fTup, fLst, fDnew, rNil, rCons, fBlt, fRg, fAny, fLc, fSl, fO, fNoO, gNm, gPut, fM1, fBits, kEq, kNe, enOf, wipeS, unwS, List.getElem?_cons_zero, List.getElem?_cons_succ, List.set_cons_zero, List.set_cons_succ, List.append_nil, List.nil_append, List.cons_append, if_true, if_false, if_pos, Bool.false_eq_true, true_and, and_true, exists_eq_left', exists_eq_left, exists_and_left, D.int.injEq, D.str.injEq, D.lst.injEq, Option.some.injEq, exists_const, ite_true, ite_false, Bool.not_true, Bool.not_false, Bool.false_xor, Bool.true_xor, reduceIte, tyD, x_fVar, x_fv1, x_fv2, x_tl, x_td, x_fz1, x_fz2, x_fz3, x_fzS1, x_fzS2, x_vw_non, x_vw_bl, x_vw_int, x_vw_str, x_vw_lst, x_vw_tup, x_vw_dic, x_vw_raw, x_vw_loc, x_vwL, x_vw_new, x_vw_slo, x_vwS1, x_vwS2, x_isI, x_isB, x_add_i, x_add_s, x_add_l, x_add_t, x_mul_i, x_mul_s, x_mul_l, x_sub, x_mod, x_div, x_pow, x_lt_i, x_gt_i, x_le_i, x_ge_i, x_lt_s, x_gt_s, x_le_s, x_ge_s, x_in_s, x_in_ds, x_in_di, x_in_l, x_in_t, x_ix_l, x_ix_t, x_ix_s, x_ix_ds, x_ix_di, x_is, x_sl_l, x_sl_s, x_sl_t, x_len_l, x_len_t, x_len_s, x_len_d, x_list_l, x_list_t, x_sum, x_max, x_min, x_isi, x_rg1, x_rg2, x_rg3, x_wk_l, x_wk_t, x_wk_s, x_wk_d, x_enum, x_enS, x_zip, x_ziS, x_items, x_itS, x_values, x_vaS, x_rt1, x_rt2, x_rt3, x_rtS1, x_rtS2, x_set1, x_set2, x_set3, x_cell1, x_cell2, x_cell3, x_on1, x_on2, x_onS1, x_onS2, x_onL, x_put_l, x_put_ds, x_put_di, x_app, x_isL, x_mLst, x_tp, x_gs0, x_gs1, x_par2, x_par3, x_p2S, x_p3S, x_keep1, x_keep2, x_keep3, x_wR0, x_wR1, x_uR0, x_uR1, x_vws0, x_vws1, atI_0, atI_1, atI_2, atI_3, ixN_0, ixN_1, ixN_2, ixN_3, cmp_int, cmp_str, cmp_bl, eqD_int, eqD_str, eqD_bl, tT_NoneType, tT_bool, tT_int, tT_str, tT_list, tT_tuple, tT_dict, tN_int, tN_bool, tN_str, tN_list, tN_tuple, tN_dict, iT_NoneType_int, iT_NoneType_bool, iT_NoneType_str, iT_NoneType_list, iT_NoneType_tuple, iT_NoneType_dict, iT_bool_int, iT_bool_bool, iT_bool_str, iT_bool_list, iT_bool_tuple, iT_bool_dict, iT_int_int, iT_int_bool, iT_int_str, iT_int_list, iT_int_tuple, iT_int_dict, iT_str_int, iT_str_bool, iT_str_str, iT_str_list, iT_str_tuple, iT_str_dict, iT_list_int, iT_list_bool, iT_list_str, iT_list_list, iT_list_tuple, iT_list_dict, iT_tuple_int, iT_tuple_bool, iT_tuple_str, iT_tuple_list, iT_tuple_tuple, iT_tuple_dict, iT_dict_int, iT_dict_bool, iT_dict_str, iT_dict_list, iT_dict_tuple, iT_dict_dict]
  refine ⟨⟨small62_of (by omega) (by omega), small62_of (by omega) (by omega)⟩, ?_⟩
  have eN : ((n : Int) + 1 - 2).toNat = n - 1 := by omega
  rw [eN]
  refine loop_inv (fun i s => ∃ x y z, s = ⟨[.val (.int n), .own (.lst (rgL n (i + 2))), x, y, z], S⟩) ⟨.no, .no, .no, rfl⟩ ?_ ?_
  · rintro i d s hd ⟨x, y, z, rfl⟩ P hP
    obtain ⟨hi, rfl⟩ := upI_at hd
    refine seq_i fun N2 hN2 => ?_
    simp only [sSeq, sNil, sPass, sBreak, sCont, sDrop, sRet, sRetN, sIf, sSet, sSetC, sFor, sAsg, fCon, fOp, f2, fV, fE, fCell, fT, gYes, gAnd, gOr, gNot, fAnd, fOr, fNot, fIf, fNeg, fCh, fCall, fCallK, fCons, fNil, fTup, fLst, fDnew, rNil, rCons, fBlt, fRg, fAny, fLc, fSl, fO, fNoO, gNm, gPut, fM1, fBits, kEq, kNe, enOf, wipeS, unwS, List.getElem?_cons_zero, List.getElem?_cons_succ, List.set_cons_zero, List.set_cons_succ, List.append_nil, List.nil_append, List.cons_append, if_true, if_false, if_pos, Bool.false_eq_true, true_and, and_true, exists_eq_left', exists_eq_left, exists_and_left, D.int.injEq, D.str.injEq, D.lst.injEq, Option.some.injEq, exists_const, ite_true, ite_false, Bool.not_true, Bool.not_false, Bool.false_xor, Bool.true_xor, reduceIte, tyD, x_fVar, x_fv1, x_fv2, x_tl, x_td, x_fz1, x_fz2, x_fz3, x_fzS1, x_fzS2, x_vw_non, x_vw_bl, x_vw_int, x_vw_str, x_vw_lst, x_vw_tup, x_vw_dic, x_vw_raw, x_vw_loc, x_vwL, x_vw_new, x_vw_slo, x_vwS1, x_vwS2, x_isI, x_isB, x_add_i, x_add_s, x_add_l, x_add_t, x_mul_i, x_mul_s, x_mul_l, x_sub, x_mod, x_div, x_pow, x_lt_i, x_gt_i, x_le_i, x_ge_i, x_lt_s, x_gt_s, x_le_s, x_ge_s, x_in_s, x_in_ds, x_in_di, x_in_l, x_in_t, x_ix_l, x_ix_t, x_ix_s, x_ix_ds, x_ix_di, x_is, x_sl_l, x_sl_s, x_sl_t, x_len_l, x_len_t, x_len_s, x_len_d, x_list_l, x_list_t, x_sum, x_max, x_min, x_isi, x_rg1, x_rg2, x_rg3, x_wk_l, x_wk_t, x_wk_s, x_wk_d, x_enum, x_enS, x_zip, x_ziS, x_items, x_itS, x_values, x_vaS, x_rt1, x_rt2, x_rt3, x_rtS1, x_rtS2, x_set1, x_set2, x_set3, x_cell1, x_cell2, x_cell3, x_on1, x_on2, x_onS1, x_onS2, x_onL, x_put_l, x_put_ds, x_put_di, x_app, x_isL, x_mLst, x_tp, x_gs0, x_gs1, x_par2, x_par3, x_p2S, x_p3S, x_keep1, x_keep2, x_keep3, x_wR0, x_wR1, x_uR0, x_uR1, x_vws0, x_vws1, atI_0, atI_1, atI_2, atI_3, ixN_0, ixN_1, ixN_2, ixN_3, cmp_int, cmp_str, cmp_bl, eqD_int, eqD_str, eqD_bl, tT_NoneType, tT_bool, tT_int, tT_str, tT_list, tT_tuple, tT_dict, tN_int, tN_bool, tN_str, tN_list, tN_tuple, tN_dict, iT_NoneType_int, iT_NoneType_bool, iT_NoneType_str, iT_NoneType_list, iT_NoneType_tuple, iT_NoneType_dict, iT_bool_int, iT_bool_bool, iT_bool_str, iT_bool_list, iT_bool_tuple, iT_bool_dict, iT_int_int, iT_int_bool, iT_int_str, iT_int_list, iT_int_tuple, iT_int_dict, iT_str_int, iT_str_bool, iT_str_str, iT_str_list, iT_str_tuple, iT_str_dict, iT_list_int, iT_list_bool, iT_list_str, iT_list_list, iT_list_tuple, iT_list_dict, iT_tuple_int, iT_tuple_bool, iT_tuple_str, iT_tuple_list, iT_tuple_tuple, iT_tuple_dict, iT_dict_int, iT_dict_bool, iT_dict_str, iT_dict_list, iT_dict_tuple, iT_dict_dict, List.flatten_replicate_singleton, Int.toNat_natCast, List.length_cons, List.length_nil, List.length_replicate, szl, e1]
    refine ⟨by decide, ⟨by omega, by omega, by omega⟩, hN2 _ ?_⟩
    refine seq_i fun N3 hN3 => ?_
    simp only [sSeq, sNil, sPass, sBreak, sCont, sDrop, sRet, sRetN, sIf, sSet, sSetC, sFor, sAsg, fCon, fOp, f2, fV, fE, fCell, fT, gYes, gAnd, gOr, gNot, fAnd, fOr, fNot, fIf, fNeg, fCh, fCall, fCallK, fCons, fNil, fTup, fLst, fDnew, rNil, rCons, fBlt, fRg, fAny, fLc, fSl, fO, fNoO, gNm, gPut, fM1, fBits, kEq, kNe, enOf, wipeS, unwS, List.getElem?_cons_zero, List.getElem?_cons_succ, List.set_cons_zero, List.set_cons_succ, List.append_nil, List.nil_append, List.cons_append, if_true, if_false, if_pos, Bool.false_eq_true, true_and, and_true, exists_eq_left', exists_eq_left, exists_and_left, D.int.injEq, D.str.injEq, D.lst.injEq, Option.some.injEq, exists_const, ite_true, ite_false, Bool.not_true, Bool.not_false, Bool.false_xor, Bool.true_xor, reduceIte, tyD, x_fVar, x_fv1, x_fv2, x_tl, x_td, x_fz1, x_fz2, x_fz3, x_fzS1, x_fzS2, x_vw_non, x_vw_bl, x_vw_int, x_vw_str, x_vw_lst, x_vw_tup, x_vw_dic, x_vw_raw, x_vw_loc, x_vwL, x_vw_new, x_vw_slo, x_vwS1, x_vwS2, x_isI, x_isB, x_add_i, x_add_s, x_add_l, x_add_t, x_mul_i, x_mul_s, x_mul_l, x_sub, x_mod, x_div, x_pow, x_lt_i, x_gt_i, x_le_i, x_ge_i, x_lt_s, x_gt_s, x_le_s, x_ge_s, x_in_s, x_in_ds, x_in_di, x_in_l, x_in_t, x_ix_l, x_ix_t, x_ix_s, x_ix_ds, x_ix_di, x_is, x_sl_l, x_sl_s, x_sl_t, x_len_l, x_len_t, x_len_s, x_len_d, x_list_l, x_list_t, x_sum, x_max, x_min, x_isi, x_rg1, x_rg2, x_rg3, x_wk_l, x_wk_t, x_wk_s, x_wk_d, x_enum, x_enS, x_zip, x_ziS, x_items, x_itS, x_values, x_vaS, x_rt1, x_rt2, x_rt3, x_rtS1, x_rtS2, x_set1, x_set2, x_set3, x_cell1, x_cell2, x_cell3, x_on1, x_on2, x_onS1, x_onS2, x_onL, x_put_l, x_put_ds, x_put_di, x_app, x_isL, x_mLst, x_tp, x_gs0, x_gs1, x_par2, x_par3, x_p2S, x_p3S, x_keep1, x_keep2, x_keep3, x_wR0, x_wR1, x_uR0, x_uR1, x_vws0, x_vws1, atI_0, atI_1, atI_2, atI_3, ixN_0, ixN_1, ixN_2, ixN_3, cmp_int, cmp_str, cmp_bl, eqD_int, eqD_str, eqD_bl, tT_NoneType, tT_bool, tT_int, tT_str, tT_list, tT_tuple, tT_dict, tN_int, tN_bool, tN_str, tN_list, tN_tuple, tN_dict, iT_NoneType_int, iT_NoneType_bool, iT_NoneType_str, iT_NoneType_list, iT_NoneType_tuple, iT_NoneType_dict, iT_bool_int, iT_bool_bool, iT_bool_str, iT_bool_list, iT_bool_tuple, iT_bool_dict, iT_int_int, iT_int_bool, iT_int_str, iT_int_list, iT_int_tuple, iT_int_dict, iT_str_int, iT_str_bool, iT_str_str, iT_str_list, iT_str_tuple, iT_str_dict, iT_list_int, iT_list_bool, iT_list_str, iT_list_list, iT_list_tuple, iT_list_dict, iT_tuple_int, iT_tuple_bool, iT_tuple_str, iT_tuple_list, iT_tuple_tuple, iT_tuple_dict, iT_dict_int, iT_dict_bool, iT_dict_str, iT_dict_list, iT_dict_tuple, iT_dict_dict]
    refine ⟨small62_of (by omega) (by omega), ?_⟩
    rw [e1]
    have hr1 : atI (rgL n (i + 2)) (-1) = some (D.lst ((rgR n (i + 1)).map D.int)) := atI_neg (i := 0) (j := i + 1) (by unfold rgL; simp) (by unfold rgL; simp) (by unfold rgL; rw [get_range_map _ (by omega)]; rfl)
    have hr2 : atI (rgL n (i + 2)) (-2) = some (D.lst ((rgR n i).map D.int)) := atI_neg (i := 1) (j := i) (by unfold rgL; simp) (by unfold rgL; simp; omega) (by unfold rgL; rw [get_range_map _ (by omega)]; rfl)
    have hg : ∀ m k : Nat, k < n + 1 → atI ((rgR n m).map D.int) (k : Int) = some (.int (rgF m k)) := fun m k hk => atI_at (by unfold rgR; rw [List.map_map, get_range_map _ hk]; rfl)
    refine loop_inv (fun k s => ∃ z, s = ⟨[.val (.int n), .own (.lst (rgL n (i + 2))), .val (.int (2 + (i : Int))), .own (.lst ((List.range (n + 1)).map fun r => .int (if r < k then rgF (i + 2) r else 0))), z], S⟩) ⟨z, ?_⟩ ?_ ?_
    · have ez : (List.range (n + 1)).map (fun r => D.int (if r < 0 then rgF (i + 2) r else 0)) = List.replicate (n + 1) (D.int 0) := by
        rw [List.eq_replicate_iff]
        refine ⟨by simp, fun b hb => ?_⟩
        obtain ⟨i, _, rfl⟩ := List.mem_map.mp hb
        rw [if_neg (Nat.not_lt_zero _)]
      rw [ez]
    · rintro k d s hd ⟨z, rfl⟩ P hP
      obtain ⟨hk, rfl⟩ := upI_at hd
      rw [Int.zero_add]
      refine seq_i fun N4 hN4 => ?_
      simp only [sSeq, sNil, sPass, sBreak, sCont, sDrop, sRet, sRetN, sIf, sSet, sSetC, sFor, sAsg, fCon, fOp, f2, fV, fE, fCell, fT, gYes, gAnd, gOr, gNot, fAnd, fOr, fNot, fIf, fNeg, fCh, fCall, fCallK, fCons, fNil, fTup, fLst, fDnew, rNil, rCons, fBlt, fRg, fAny, fLc, fSl, fO, fNoO, gNm, gPut, fM1, fBits, kEq, kNe, enOf, wipeS, unwS, List.getElem?_cons_zero, List.getElem?_cons_succ, List.set_cons_zero, List.set_cons_succ, List.append_nil, List.nil_append, List.cons_append, if_true, if_false, if_pos, Bool.false_eq_true, true_and, and_true, exists_eq_left', exists_eq_left, exists_and_left, D.int.injEq, D.str.injEq, D.lst.injEq, Option.some.injEq, exists_const, ite_true, ite_false, Bool.not_true, Bool.not_false, Bool.false_xor, Bool.true_xor, reduceIte, tyD, x_fVar, x_fv1, x_fv2, x_tl, x_td, x_fz1, x_fz2, x_fz3, x_fzS1, x_fzS2, x_vw_non, x_vw_bl, x_vw_int, x_vw_str, x_vw_lst, x_vw_tup, x_vw_dic, x_vw_raw, x_vw_loc, x_vwL, x_vw_new, x_vw_slo, x_vwS1, x_vwS2, x_isI, x_isB, x_add_i, x_add_s, x_add_l, x_add_t, x_mul_i, x_mul_s, x_mul_l, x_sub, x_mod, x_div, x_pow, x_lt_i, x_gt_i, x_le_i, x_ge_i, x_lt_s, x_gt_s, x_le_s, x_ge_s, x_in_s, x_in_ds, x_in_di, x_in_l, x_in_t, x_ix_l, x_ix_t, x_ix_s, x_ix_ds, x_ix_di, x_is, x_sl_l, x_sl_s, x_sl_t, x_len_l, x_len_t, x_len_s, x_len_d, x_list_l, x_list_t, x_sum, x_max, x_min, x_isi, x_rg1, x_rg2, x_rg3, x_wk_l, x_wk_t, x_wk_s, x_wk_d, x_enum, x_enS, x_zip, x_ziS, x_items, x_itS, x_values, x_vaS, x_rt1, x_rt2, x_rt3, x_rtS1, x_rtS2, x_set1, x_set2, x_set3, x_cell1, x_cell2, x_cell3, x_on1, x_on2, x_onS1, x_onS2, x_onL, x_put_l, x_put_ds, x_put_di, x_app, x_isL, x_mLst, x_tp, x_gs0, x_gs1, x_par2, x_par3, x_p2S, x_p3S, x_keep1, x_keep2, x_keep3, x_wR0, x_wR1, x_uR0, x_uR1, x_vws0, x_vws1, atI_0, atI_1, atI_2, atI_3, ixN_0, ixN_1, ixN_2, ixN_3, cmp_int, cmp_str, cmp_bl, eqD_int, eqD_str, eqD_bl, tT_NoneType, tT_bool, tT_int, tT_str, tT_list, tT_tuple, tT_dict, tN_int, tN_bool, tN_str, tN_list, tN_tuple, tN_dict, iT_NoneType_int, iT_NoneType_bool, iT_NoneType_str, iT_NoneType_list, iT_NoneType_tuple, iT_NoneType_dict, iT_bool_int, iT_bool_bool, iT_bool_str, iT_bool_list, iT_bool_tuple, iT_bool_dict, iT_int_int, iT_int_bool, iT_int_str, iT_int_list, iT_int_tuple, iT_int_dict, iT_str_int, iT_str_bool, iT_str_str, iT_str_list, iT_str_tuple, iT_str_dict, iT_list_int, iT_list_bool, iT_list_str, iT_list_list, iT_list_tuple, iT_list_dict, iT_tuple_int, iT_tuple_bool, iT_tuple_str, iT_tuple_list, iT_tuple_tuple, iT_tuple_dict, iT_dict_int, iT_dict_bool, iT_dict_str, iT_dict_list, iT_dict_tuple, iT_dict_dict, hr1, hg _ _ hk]
      refine ⟨mulok (.inl (by omega)), k, ixN_at (by simpa using hk), hN4 _ ?_⟩
      rw [set_range_map]
      have hrow : ∀ φ : Nat → D, L2.atI ((List.range (n + 1)).map φ) (k : Int) = some (φ k) := fun φ => atI_at (get_range_map φ hk)
      simp only [sSeq, sNil, sPass, sBreak, sCont, sDrop, sRet, sRetN, sIf, sSet, sSetC, sFor, sAsg, fCon, fOp, f2, fV, fE, fCell, fT, gYes, gAnd, gOr, gNot, fAnd, fOr, fNot, fIf, fNeg, fCh, fCall, fCallK, fCons, fNil, fTup, fLst, fDnew, rNil, rCons, fBlt, fRg, fAny, fLc, fSl, fO, fNoO, gNm, gPut, fM1, fBits, kEq, kNe, enOf, wipeS, unwS, List.getElem?_cons_zero, List.getElem?_cons_succ, List.set_cons_zero, List.set_cons_succ, List.append_nil, List.nil_append, List.cons_append, if_true, if_false, if_pos, Bool.false_eq_true, true_and, and_true, exists_eq_left', exists_eq_left, exists_and_left, D.int.injEq, D.str.injEq, D.lst.injEq, Option.some.injEq, exists_const, ite_true, ite_false, Bool.not_true, Bool.not_false, Bool.false_xor, Bool.true_xor, reduceIte, tyD, x_fVar, x_fv1, x_fv2, x_tl, x_td, x_fz1, x_fz2, x_fz3, x_fzS1, x_fzS2, x_vw_non, x_vw_bl, x_vw_int, x_vw_str, x_vw_lst, x_vw_tup, x_vw_dic, x_vw_raw, x_vw_loc, x_vwL, x_vw_new, x_vw_slo, x_vwS1, x_vwS2, x_isI, x_isB, x_add_i, x_add_s, x_add_l, x_add_t, x_mul_i, x_mul_s, x_mul_l, x_sub, x_mod, x_div, x_pow, x_lt_i, x_gt_i, x_le_i, x_ge_i, x_lt_s, x_gt_s, x_le_s, x_ge_s, x_in_s, x_in_ds, x_in_di, x_in_l, x_in_t, x_ix_l, x_ix_t, x_ix_s, x_ix_ds, x_ix_di, x_is, x_sl_l, x_sl_s, x_sl_t, x_len_l, x_len_t, x_len_s, x_len_d, x_list_l, x_list_t, x_sum, x_max, x_min, x_isi, x_rg1, x_rg2, x_rg3, x_wk_l, x_wk_t, x_wk_s, x_wk_d, x_enum, x_enS, x_zip, x_ziS, x_items, x_itS, x_values, x_vaS, x_rt1, x_rt2, x_rt3, x_rtS1, x_rtS2, x_set1, x_set2, x_set3, x_cell1, x_cell2, x_cell3, x_on1, x_on2, x_onS1, x_onS2, x_onL, x_put_l, x_put_ds, x_put_di, x_app, x_isL, x_mLst, x_tp, x_gs0, x_gs1, x_par2, x_par3, x_p2S, x_p3S, x_keep1, x_keep2, x_keep3, x_wR0, x_wR1, x_uR0, x_uR1, x_vws0, x_vws1, atI_0, atI_1, atI_2, atI_3, ixN_0, ixN_1, ixN_2, ixN_3, cmp_int, cmp_str, cmp_bl, eqD_int, eqD_str, eqD_bl, tT_NoneType, tT_bool, tT_int, tT_str, tT_list, tT_tuple, tT_dict, tN_int, tN_bool, tN_str, tN_list, tN_tuple, tN_dict, iT_NoneType_int, iT_NoneType_bool, iT_NoneType_str, iT_NoneType_list, iT_NoneType_tuple, iT_NoneType_dict, iT_bool_int, iT_bool_bool, iT_bool_str, iT_bool_list, iT_bool_tuple, iT_bool_dict, iT_int_int, iT_int_bool, iT_int_str, iT_int_list, iT_int_tuple, iT_int_dict, iT_str_int, iT_str_bool, iT_str_str, iT_str_list, iT_str_tuple, iT_str_dict, iT_list_int, iT_list_bool, iT_list_str, iT_list_list, iT_list_tuple, iT_list_dict, iT_tuple_int, iT_tuple_bool, iT_tuple_str, iT_tuple_list, iT_tuple_tuple, iT_tuple_dict, iT_dict_int, iT_dict_bool, iT_dict_str, iT_dict_list, iT_dict_tuple, iT_dict_dict, hrow]
      have ei : (2 + (i : Int) - 1) = (i + 1 : Int) := by omega
      rw [ei]
      by_cases k0 : 0 < k
      · rw [if_pos (by simpa using k0)]
        have hk1 : (k : Int) - 1 = ((k - 1 : Nat) : Int) := by omega
        rw [hk1]
        simp only [sSeq, sNil, sPass, sBreak, sCont, sDrop, sRet, sRetN, sIf, sSet, sSetC, sFor, sAsg, fCon, fOp, f2, fV, fE, fCell, fT, gYes, gAnd, gOr, gNot, fAnd, fOr, fNot, fIf, fNeg, fCh, fCall, fCallK, fCons, fNil, fTup, fLst, fDnew, rNil, rCons, fBlt, fRg, fAny, fLc, fSl, fO, fNoO, gNm, gPut, fM1, fBits, kEq, kNe, enOf, wipeS, unwS, List.getElem?_cons_zero, List.getElem?_cons_succ, List.set_cons_zero, List.set_cons_succ, List.append_nil, List.nil_append, List.cons_append, if_true, if_false, if_pos, Bool.false_eq_true, true_and, and_true, exists_eq_left', exists_eq_left, exists_and_left, D.int.injEq, D.str.injEq, D.lst.injEq, Option.some.injEq, exists_const, ite_true, ite_false, Bool.not_true, Bool.not_false, Bool.false_xor, Bool.true_xor, reduceIte, tyD, x_fVar, x_fv1, x_fv2, x_tl, x_td, x_fz1, x_fz2, x_fz3, x_fzS1, x_fzS2, x_vw_non, x_vw_bl, x_vw_int, x_vw_str, x_vw_lst, x_vw_tup, x_vw_dic, x_vw_raw, x_vw_loc, x_vwL, x_vw_new, x_vw_slo, x_vwS1, x_vwS2, x_isI, x_isB, x_add_i, x_add_s, x_add_l, x_add_t, x_mul_i, x_mul_s, x_mul_l, x_sub, x_mod, x_div, x_pow, x_lt_i, x_gt_i, x_le_i, x_ge_i, x_lt_s, x_gt_s, x_le_s, x_ge_s, x_in_s, x_in_ds, x_in_di, x_in_l, x_in_t, x_ix_l, x_ix_t, x_ix_s, x_ix_ds, x_ix_di, x_is, x_sl_l, x_sl_s, x_sl_t, x_len_l, x_len_t, x_len_s, x_len_d, x_list_l, x_list_t, x_sum, x_max, x_min, x_isi, x_rg1, x_rg2, x_rg3, x_wk_l, x_wk_t, x_wk_s, x_wk_d, x_enum, x_enS, x_zip, x_ziS, x_items, x_itS, x_values, x_vaS, x_rt1, x_rt2, x_rt3, x_rtS1, x_rtS2, x_set1, x_set2, x_set3, x_cell1, x_cell2, x_cell3, x_on1, x_on2, x_onS1, x_onS2, x_onL, x_put_l, x_put_ds, x_put_di, x_app, x_isL, x_mLst, x_tp, x_gs0, x_gs1, x_par2, x_par3, x_p2S, x_p3S, x_keep1, x_keep2, x_keep3, x_wR0, x_wR1, x_uR0, x_uR1, x_vws0, x_vws1, atI_0, atI_1, atI_2, atI_3, ixN_0, ixN_1, ixN_2, ixN_3, cmp_int, cmp_str, cmp_bl, eqD_int, eqD_str, eqD_bl, tT_NoneType, tT_bool, tT_int, tT_str, tT_list, tT_tuple, tT_dict, tN_int, tN_bool, tN_str, tN_list, tN_tuple, tN_dict, iT_NoneType_int, iT_NoneType_bool, iT_NoneType_str, iT_NoneType_list, iT_NoneType_tuple, iT_NoneType_dict, iT_bool_int, iT_bool_bool, iT_bool_str, iT_bool_list, iT_bool_tuple, iT_bool_dict, iT_int_int, iT_int_bool, iT_int_str, iT_int_list, iT_int_tuple, iT_int_dict, iT_str_int, iT_str_bool, iT_str_str, iT_str_list, iT_str_tuple, iT_str_dict, iT_list_int, iT_list_bool, iT_list_str, iT_list_list, iT_list_tuple, iT_list_dict, iT_tuple_int, iT_tuple_bool, iT_tuple_str, iT_tuple_list, iT_tuple_tuple, iT_tuple_dict, iT_dict_int, iT_dict_bool, iT_dict_str, iT_dict_list, iT_dict_tuple, iT_dict_dict, hr2, hg _ _ (show k - 1 < n + 1 by omega)]
        refine ⟨mulok (.inl (by omega)), k, ixN_at (by simpa using hk), hP _ ⟨.val (.int k), ?_⟩⟩
        rw [set_range_map]
        refine congrArg (fun l => (⟨[.val (.int n), .own (.lst (rgL n (i + 2))), .val (.int (2 + (i : Int))), .own (.lst l), .val (.int k)], S⟩ : SS)) (range_map_congr fun r hr => ?_)
        by_cases e : r = k
        · subst e
          rw [if_pos rfl, if_pos (by omega)]
          congr 1
          show _ = (i + 1 : Int) * rgF (i + 1) r + if 0 < r then (i + 1 : Int) * rgF i (r - 1) else 0
          rw [if_pos k0]
        · rw [if_neg e, if_neg e]
          congr 1
          by_cases q : r < k
          · rw [if_pos q, if_pos (by omega)]
          · rw [if_neg q, if_neg (by omega)]
      · rw [if_neg (by simpa using k0)]
        obtain rfl : k = 0 := by omega
        refine hP _ ⟨.val (.int (0 : Nat)), ?_⟩
        refine congrArg (fun l => (⟨[.val (.int n), .own (.lst (rgL n (i + 2))), .val (.int (2 + (i : Int))), .own (.lst l), .val (.int (0 : Nat))], S⟩ : SS)) (range_map_congr fun r hr => ?_)
        by_cases e : r = 0
        · subst e
          rw [if_pos rfl, if_pos (by omega)]
          congr 1
          show _ = (i + 1 : Int) * rgF (i + 1) 0 + if 0 < 0 then (i + 1 : Int) * rgF i (0 - 1) else 0
          rw [if_neg (Nat.lt_irrefl 0), Int.add_zero]
        · rw [if_neg e, if_neg (Nat.not_lt_zero _), if_neg (by omega)]
    · rintro s ⟨z, rfl⟩
      rw [upI_len]
      refine hN3 _ ?_
      simp only [sSeq, sNil, sPass, sBreak, sCont, sDrop, sRet, sRetN, sIf, sSet, sSetC, sFor, sAsg, fCon, fOp, f2, fV, fE, fCell, fT, gYes, gAnd, gOr, gNot, fAnd, fOr, fNot, fIf, fNeg, fCh, fCall, fCallK, fCons, fNil, fTup, fLst, fDnew, rNil, rCons, fBlt, fRg, fAny, fLc, fSl, fO, fNoO, gNm, gPut, fM1, fBits, kEq, kNe, enOf, wipeS, unwS, List.getElem?_cons_zero, List.getElem?_cons_succ, List.set_cons_zero, List.set_cons_succ, List.append_nil, List.nil_append, List.cons_append, if_true, if_false, if_pos, Bool.false_eq_true, true_and, and_true, exists_eq_left', exists_eq_left, exists_and_left, D.int.injEq, D.str.injEq, D.lst.injEq, Option.some.injEq, exists_const, ite_true, ite_false, Bool.not_true, Bool.not_false, Bool.false_xor, Bool.true_xor, reduceIte, tyD, x_fVar, x_fv1, x_fv2, x_tl, x_td, x_fz1, x_fz2, x_fz3, x_fzS1, x_fzS2, x_vw_non, x_vw_bl, x_vw_int, x_vw_str, x_vw_lst, x_vw_tup, x_vw_dic, x_vw_raw, x_vw_loc, x_vwL, x_vw_new, x_vw_slo, x_vwS1, x_vwS2, x_isI, x_isB, x_add_i, x_add_s, x_add_l, x_add_t, x_mul_i, x_mul_s, x_mul_l, x_sub, x_mod, x_div, x_pow, x_lt_i, x_gt_i, x_le_i, x_ge_i, x_lt_s, x_gt_s, x_le_s, x_ge_s, x_in_s, x_in_ds, x_in_di, x_in_l, x_in_t, x_ix_l, x_ix_t, x_ix_s, x_ix_ds, x_ix_di, x_is, x_sl_l, x_sl_s, x_sl_t, x_len_l, x_len_t, x_len_s, x_len_d, x_list_l, x_list_t, x_sum, x_max, x_min, x_isi, x_rg1, x_rg2, x_rg3, x_wk_l, x_wk_t, x_wk_s, x_wk_d, x_enum, x_enS, x_zip, x_ziS, x_items, x_itS, x_values, x_vaS, x_rt1, x_rt2, x_rt3, x_rtS1, x_rtS2, x_set1, x_set2, x_set3, x_cell1, x_cell2, x_cell3, x_on1, x_on2, x_onS1, x_onS2, x_onL, x_put_l, x_put_ds, x_put_di, x_app, x_isL, x_mLst, x_tp, x_gs0, x_gs1, x_par2, x_par3, x_p2S, x_p3S, x_keep1, x_keep2, x_keep3, x_wR0, x_wR1, x_uR0, x_uR1, x_vws0, x_vws1, atI_0, atI_1, atI_2, atI_3, ixN_0, ixN_1, ixN_2, ixN_3, cmp_int, cmp_str, cmp_bl, eqD_int, eqD_str, eqD_bl, tT_NoneType, tT_bool, tT_int, tT_str, tT_list, tT_tuple, tT_dict, tN_int, tN_bool, tN_str, tN_list, tN_tuple, tN_dict, iT_NoneType_int, iT_NoneType_bool, iT_NoneType_str, iT_NoneType_list, iT_NoneType_tuple, iT_NoneType_dict, iT_bool_int, iT_bool_bool, iT_bool_str, iT_bool_list, iT_bool_tuple, iT_bool_dict, iT_int_int, iT_int_bool, iT_int_str, iT_int_list, iT_int_tuple, iT_int_dict, iT_str_int, iT_str_bool, iT_str_str, iT_str_list, iT_str_tuple, iT_str_dict, iT_list_int, iT_list_bool, iT_list_str, iT_list_list, iT_list_tuple, iT_list_dict, iT_tuple_int, iT_tuple_bool, iT_tuple_str, iT_tuple_list, iT_tuple_tuple, iT_tuple_dict, iT_dict_int, iT_dict_bool, iT_dict_str, iT_dict_list, iT_dict_tuple, iT_dict_dict]
      have hrl : (rgL n (i + 2)).length = i + 2 := by unfold rgL; simp
      rw [hrl]
      have hz : (List.range (n + 1)).map (fun r => D.int (if r < n + 1 then rgF (i + 2) r else 0)) = (rgR n (i + 2)).map D.int := by
        unfold rgR
        rw [List.map_map]
        exact range_map_congr fun r hr => by rw [if_pos hr]; rfl
      rw [hz]
      refine ⟨by rw [szl]; omega, hP _ ⟨.val (.int (2 + (i : Int))), .val (.lst ((rgR n (i + 2)).map D.int)), z, ?_⟩⟩
      have : rgL n (i + 1 + 2) = rgL n (i + 2) ++ [D.lst ((rgR n (i + 2)).map D.int)] := by
        unfold rgL
        rw [show i + 1 + 2 = (i + 2) + 1 by omega, List.range_succ, List.map_append]
        rfl
      rw [this]
  · rintro s ⟨x, y, z, rfl⟩
    refine hN1 _ ?_
    simp only [sSeq, sNil, sPass, sBreak, sCont, sDrop, sRet, sRetN, sIf, sSet, sSetC, sFor, sAsg, fCon, fOp, f2, fV, fE, fCell, fT, gYes, gAnd, gOr, gNot, fAnd, fOr, fNot, fIf, fNeg, fCh, fCall, fCallK, fCons, fNil, fTup, fLst, fDnew, rNil, rCons, fBlt, fRg, fAny, fLc, fSl, fO, fNoO, gNm, gPut, fM1, fBits, kEq, kNe, enOf, wipeS, unwS, List.getElem?_cons_zero, List.getElem?_cons_succ, List.set_cons_zero, List.set_cons_succ, List.append_nil, List.nil_append, List.cons_append, if_true, if_false, if_pos, Bool.false_eq_true, true_and, and_true, exists_eq_left', exists_eq_left, exists_and_left, D.int.injEq, D.str.injEq, D.lst.injEq, Option.some.injEq, exists_const, ite_true, ite_false, Bool.not_true, Bool.not_false, Bool.false_xor, Bool.true_xor, reduceIte, tyD, x_fVar, x_fv1, x_fv2, x_tl, x_td, x_fz1, x_fz2, x_fz3, x_fzS1, x_fzS2, x_vw_non, x_vw_bl, x_vw_int, x_vw_str, x_vw_lst, x_vw_tup, x_vw_dic, x_vw_raw, x_vw_loc, x_vwL, x_vw_new, x_vw_slo, x_vwS1, x_vwS2, x_isI, x_isB, x_add_i, x_add_s, x_add_l, x_add_t, x_mul_i, x_mul_s, x_mul_l, x_sub, x_mod, x_div, x_pow, x_lt_i, x_gt_i, x_le_i, x_ge_i, x_lt_s, x_gt_s, x_le_s, x_ge_s, x_in_s, x_in_ds, x_in_di, x_in_l, x_in_t, x_ix_l, x_ix_t, x_ix_s, x_ix_ds, x_ix_di, x_is, x_sl_l, x_sl_s, x_sl_t, x_len_l, x_len_t, x_len_s, x_len_d, x_list_l, x_list_t, x_sum, x_max, x_min, x_isi, x_rg1, x_rg2, x_rg3, x_wk_l, x_wk_t, x_wk_s, x_wk_d, x_enum, x_enS, x_zip, x_ziS, x_items, x_itS, x_values, x_vaS, x_rt1, x_rt2, x_rt3, x_rtS1, x_rtS2, x_set1, x_set2, x_set3, x_cell1, x_cell2, x_cell3, x_on1, x_on2, x_onS1, x_onS2, x_onL, x_put_l, x_put_ds, x_put_di, x_app, x_isL, x_mLst, x_tp, x_gs0, x_gs1, x_par2, x_par3, x_p2S, x_p3S, x_keep1, x_keep2, x_keep3, x_wR0, x_wR1, x_uR0, x_uR1, x_vws0, x_vws1, atI_0, atI_1, atI_2, atI_3, ixN_0, ixN_1, ixN_2, ixN_3, cmp_int, cmp_str, cmp_bl, eqD_int, eqD_str, eqD_bl, tT_NoneType, tT_bool, tT_int, tT_str, tT_list, tT_tuple, tT_dict, tN_int, tN_bool, tN_str, tN_list, tN_tuple, tN_dict, iT_NoneType_int, iT_NoneType_bool, iT_NoneType_str, iT_NoneType_list, iT_NoneType_tuple, iT_NoneType_dict, iT_bool_int, iT_bool_bool, iT_bool_str, iT_bool_list, iT_bool_tuple, iT_bool_dict, iT_int_int, iT_int_bool, iT_int_str, iT_int_list, iT_int_tuple, iT_int_dict, iT_str_int, iT_str_bool, iT_str_str, iT_str_list, iT_str_tuple, iT_str_dict, iT_list_int, iT_list_bool, iT_list_str, iT_list_list, iT_list_tuple, iT_list_dict, iT_tuple_int, iT_tuple_bool, iT_tuple_str, iT_tuple_list, iT_tuple_tuple, iT_tuple_dict, iT_dict_int, iT_dict_bool, iT_dict_str, iT_dict_list, iT_dict_tuple, iT_dict_dict]
    rw [upI_len]
    have : n - 1 + 2 = max 2 (n + 1) := by omega
    rw [this]
    exact h
theorem ca_small : ∀ n, n < 11 → ((caL n (n + 1)).all fun r => r.all fun x => decide (x.natAbs < 2 ^ 64)) = true := by decide +kernel
theorem pasc_small : ∀ n, n < 11 → ((pasc n).all fun x => decide (x.natAbs < 2 ^ 64)) = true := by decide +kernel
theorem all_getD {l : List Int} (h : (l.all fun x => decide (x.natAbs < 2 ^ 64)) = true) (i : Nat) : (l.getD i 0).natAbs < 2 ^ 64 := by
  rw [List.getD_eq_getElem?_getD]
  cases e : l[i]? with
  | none => decide
  | some x => exact of_decide_eq_true (List.all_eq_true.mp h x (List.mem_of_getElem? e))
theorem all_getD2 {l : List (List Int)} (h : (l.all fun r => r.all fun x => decide (x.natAbs < 2 ^ 64)) = true) (j i : Nat) : ((l.getD j []).getD i 0).natAbs < 2 ^ 64 := by
  rw [List.getD_eq_getElem?_getD (l := l)]
  cases e : l[j]? with
  | none => show (([] : List Int).getD i 0).natAbs < 2 ^ 64; simp
  | some x => exact all_getD (List.all_eq_true.mp h x (List.mem_of_getElem? e)) i
theorem caL_len (n : Nat) : ∀ k, (caL n k).length = k
  | 0 => rfl
  | k + 1 => by unfold caL; rw [List.length_append, caL_len n k]; rfl
theorem caL_pre (n : Nat) : ∀ k j i, i < k → (caL n (k + j)).getD i [] = (caL n k).getD i []
  | k, 0, i, h => rfl
  | k, j + 1, i, h => by
    rw [← caL_pre n k j i h]
    show (caL n (k + j) ++ [caR n (k + j) (caL n (k + j))]).getD i [] = _
    rw [List.getD_eq_getElem?_getD, List.getD_eq_getElem?_getD, List.getElem?_append_left (by rw [caL_len]; omega)]
theorem caL_at (n k i : Nat) (h : i < k) : (caL n k).getD i [] = caR n i (caL n i) := by
  obtain ⟨j, rfl⟩ : ∃ j, k = (i + 1) + j := ⟨k - (i + 1), by omega⟩
  rw [caL_pre n (i + 1) j i (by omega)]
  show (caL n i ++ [caR n i (caL n i)]).getD i [] = _
  rw [List.getD_eq_getElem?_getD, List.getElem?_append_right (by rw [caL_len]; omega), caL_len, Nat.sub_self]
  rfl
theorem dI_at {l : List Int} {i : Nat} (h : i < l.length) : L2.atI (l.map D.int) (i : Int) = some (.int (l.getD i 0)) :=
  atI_at (by rw [List.getElem?_map, List.getD_eq_getElem?_getD, List.getElem?_eq_getElem h]; rfl)
theorem dII_at {l : List (List Int)} {i : Nat} (h : i < l.length) : L2.atI (l.map dI) (i : Int) = some (.lst ((l.getD i []).map D.int)) :=
  atI_at (by rw [List.getElem?_map, List.getD_eq_getElem?_getD, List.getElem?_eq_getElem h]; rfl)
theorem chL_at {n i : Nat} (h : i ≤ n) : L2.atI (chL n) (i : Int) = some (.lst ((pasc i).map D.int)) :=
  atI_at (by unfold chL; rw [get_range_map _ (by omega)]; rfl)
theorem rgL_at {n m i : Nat} (h : i < m) : L2.atI (rgL n m) (i : Int) = some (.lst ((rgR n i).map D.int)) :=
  atI_at (by unfold rgL; rw [get_range_map _ h]; rfl)
theorem ca_bound {n k : Nat} (hn : n ≤ 10) (hk : k ≤ n + 1) (j i : Nat) (hj : j < k) : (((caL n k).getD j []).getD i 0).natAbs < 2 ^ 64 := by
  have h := all_getD2 (ca_small n (by omega)) j i
  obtain ⟨d, hd⟩ : ∃ d, n + 1 = k + d := ⟨n + 1 - k, by omega⟩
  rw [hd, caL_pre n k d j hj] at h
  exact h
theorem law_calm_by_stays : ∀ ds S G, c_calm_by_stays ds S G → fb_calm_by_stays (enOf G) (startS N_calm_by_stays ds S) := by
  rintro ds S G ⟨n, rfl, hn, h⟩
  show fb_calm_by_stays (enOf G) ⟨[.val (.int n), .val (.lst (chL n)), .val (.lst ((waysL n).map D.int)), .no, .no, .no, .no, .no, .no], S⟩
  unfold fb_calm_by_stays
  refine seq_i fun N0 hN0 => ?_
  simp only [sSeq, sNil, sPass, sBreak, sCont, sDrop, sRet, sRetN, sIf, sSet, sSetC, sFor, sAsg, fCon, fOp, f2, fV, fE, fCell, fT, gYes, gAnd, gOr, gNot, fAnd, fOr, fNot, fIf, fNeg, fCh, fCall, fCallK, fCons, fNil, fTup, fLst, fDnew, rNil, rCons, fBlt, fRg, fAny, fLc, fSl, fO, fNoO, gNm, gPut, fM1, fBits, kEq, kNe, enOf, wipeS, unwS, List.getElem?_cons_zero, List.getElem?_cons_succ, List.set_cons_zero, List.set_cons_succ, List.append_nil, List.nil_append, List.cons_append, if_true, if_false, if_pos, Bool.false_eq_true, true_and, and_true, exists_eq_left', exists_eq_left, exists_and_left, D.int.injEq, D.str.injEq, D.lst.injEq, Option.some.injEq, exists_const, ite_true, ite_false, Bool.not_true, Bool.not_false, Bool.false_xor, Bool.true_xor, reduceIte, tyD, x_fVar, x_fv1, x_fv2, x_tl, x_td, x_fz1, x_fz2, x_fz3, x_fzS1, x_fzS2, x_vw_non, x_vw_bl, x_vw_int, x_vw_str, x_vw_lst, x_vw_tup, x_vw_dic, x_vw_raw, x_vw_loc, x_vwL, x_vw_new, x_vw_slo, x_vwS1, x_vwS2, x_isI, x_isB, x_add_i, x_add_s, x_add_l, x_add_t, x_mul_i, x_mul_s, x_mul_l, x_sub, x_mod, x_div, x_pow, x_lt_i, x_gt_i, x_le_i, x_ge_i, x_lt_s, x_gt_s, x_le_s, x_ge_s, x_in_s, x_in_ds, x_in_di, x_in_l, x_in_t, x_ix_l, x_ix_t, x_ix_s, x_ix_ds, x_ix_di, x_is, x_sl_l, x_sl_s, x_sl_t, x_len_l, x_len_t, x_len_s, x_len_d, x_list_l, x_list_t, x_sum, x_max, x_min, x_isi, x_rg1, x_rg2, x_rg3, x_wk_l, x_wk_t, x_wk_s, x_wk_d, x_enum, x_enS, x_zip, x_ziS, x_items, x_itS, x_values, x_vaS, x_rt1, x_rt2, x_rt3, x_rtS1, x_rtS2, x_set1, x_set2, x_set3, x_cell1, x_cell2, x_cell3, x_on1, x_on2, x_onS1, x_onS2, x_onL, x_put_l, x_put_ds, x_put_di, x_app, x_isL, x_mLst, x_tp, x_gs0, x_gs1, x_par2, x_par3, x_p2S, x_p3S, x_keep1, x_keep2, x_keep3, x_wR0, x_wR1, x_uR0, x_uR1, x_vws0, x_vws1, atI_0, atI_1, atI_2, atI_3, ixN_0, ixN_1, ixN_2, ixN_3, cmp_int, cmp_str, cmp_bl, eqD_int, eqD_str, eqD_bl, tT_NoneType, tT_bool, tT_int, tT_str, tT_list, tT_tuple, tT_dict, tN_int, tN_bool, tN_str, tN_list, tN_tuple, tN_dict, iT_NoneType_int, iT_NoneType_bool, iT_NoneType_str, iT_NoneType_list, iT_NoneType_tuple, iT_NoneType_dict, iT_bool_int, iT_bool_bool, iT_bool_str, iT_bool_list, iT_bool_tuple, iT_bool_dict, iT_int_int, iT_int_bool, iT_int_str, iT_int_list, iT_int_tuple, iT_int_dict, iT_str_int, iT_str_bool, iT_str_str, iT_str_list, iT_str_tuple, iT_str_dict, iT_list_int, iT_list_bool, iT_list_str, iT_list_list, iT_list_tuple, iT_list_dict, iT_tuple_int, iT_tuple_bool, iT_tuple_str, iT_tuple_list, iT_tuple_tuple, iT_tuple_dict, iT_dict_int, iT_dict_bool, iT_dict_str, iT_dict_list, iT_dict_tuple, iT_dict_dict]
  refine ⟨by decide, hN0 _ ?_⟩
  refine seq_i fun N1 hN1 => ?_
  simp only [sSeq, sNil, sPass, sBreak, sCont, sDrop, sRet, sRetN, sIf, sSet, sSetC, sFor, sAsg, fCon, fOp, f2, fV, fE, fCell, fT, gYes, gAnd, gOr, gNot, fAnd, fOr, fNot, fIf, fNeg, fCh, fCall, fCallK, fCons, fNil, fTup, fLst, fDnew, rNil, rCons, fBlt, fRg, fAny, fLc, fSl, fO, fNoO, gNm, gPut, fM1, fBits, kEq, kNe, enOf, wipeS, unwS, List.getElem?_cons_zero, List.getElem?_cons_succ, List.set_cons_zero, List.set_cons_succ, List.append_nil, List.nil_append, List.cons_append, if_true, if_false, if_pos, Bool.false_eq_true, true_and, and_true, exists_eq_left', exists_eq_left, exists_and_left, D.int.injEq, D.str.injEq, D.lst.injEq, Option.some.injEq, exists_const, ite_true, ite_false, Bool.not_true, Bool.not_false, Bool.false_xor, Bool.true_xor, reduceIte, tyD, x_fVar, x_fv1, x_fv2, x_tl, x_td, x_fz1, x_fz2, x_fz3, x_fzS1, x_fzS2, x_vw_non, x_vw_bl, x_vw_int, x_vw_str, x_vw_lst, x_vw_tup, x_vw_dic, x_vw_raw, x_vw_loc, x_vwL, x_vw_new, x_vw_slo, x_vwS1, x_vwS2, x_isI, x_isB, x_add_i, x_add_s, x_add_l, x_add_t, x_mul_i, x_mul_s, x_mul_l, x_sub, x_mod, x_div, x_pow, x_lt_i, x_gt_i, x_le_i, x_ge_i, x_lt_s, x_gt_s, x_le_s, x_ge_s, x_in_s, x_in_ds, x_in_di, x_in_l, x_in_t, x_ix_l, x_ix_t, x_ix_s, x_ix_ds, x_ix_di, x_is, x_sl_l, x_sl_s, x_sl_t, x_len_l, x_len_t, x_len_s, x_len_d, x_list_l, x_list_t, x_sum, x_max, x_min, x_isi, x_rg1, x_rg2, x_rg3, x_wk_l, x_wk_t, x_wk_s, x_wk_d, x_enum, x_enS, x_zip, x_ziS, x_items, x_itS, x_values, x_vaS, x_rt1, x_rt2, x_rt3, x_rtS1, x_rtS2, x_set1, x_set2, x_set3, x_cell1, x_cell2, x_cell3, x_on1, x_on2, x_onS1, x_onS2, x_onL, x_put_l, x_put_ds, x_put_di, x_app, x_isL, x_mLst, x_tp, x_gs0, x_gs1, x_par2, x_par3, x_p2S, x_p3S, x_keep1, x_keep2, x_keep3, x_wR0, x_wR1, x_uR0, x_uR1, x_vws0, x_vws1, atI_0, atI_1, atI_2, atI_3, ixN_0, ixN_1, ixN_2, ixN_3, cmp_int, cmp_str, cmp_bl, eqD_int, eqD_str, eqD_bl, tT_NoneType, tT_bool, tT_int, tT_str, tT_list, tT_tuple, tT_dict, tN_int, tN_bool, tN_str, tN_list, tN_tuple, tN_dict, iT_NoneType_int, iT_NoneType_bool, iT_NoneType_str, iT_NoneType_list, iT_NoneType_tuple, iT_NoneType_dict, iT_bool_int, iT_bool_bool, iT_bool_str, iT_bool_list, iT_bool_tuple, iT_bool_dict, iT_int_int, iT_int_bool, iT_int_str, iT_int_list, iT_int_tuple, iT_int_dict, iT_str_int, iT_str_bool, iT_str_str, iT_str_list, iT_str_tuple, iT_str_dict, iT_list_int, iT_list_bool, iT_list_str, iT_list_list, iT_list_tuple, iT_list_dict, iT_tuple_int, iT_tuple_bool, iT_tuple_str, iT_tuple_list, iT_tuple_tuple, iT_tuple_dict, iT_dict_int, iT_dict_bool, iT_dict_str, iT_dict_list, iT_dict_tuple, iT_dict_dict]
  refine ⟨small62_of (by omega) (by omega), ?_⟩
  have e1 : ((n : Int) + 1).toNat = n + 1 := by omega
  rw [e1]
  refine loop_inv (fun i s => ∃ x y z v w, s = ⟨[.val (.int n), .val (.lst (chL n)), .val (.lst ((waysL n).map D.int)), .own (.lst ((caL n i).map dI)), x, y, z, v, w], S⟩) ⟨.no, .no, .no, .no, .no, rfl⟩ ?_ ?_
  · rintro i d s hd ⟨x, y, z, v, w, rfl⟩ P hP
    obtain ⟨hi, rfl⟩ := upI_at hd
    rw [Int.zero_add]
    refine seq_i fun N2 hN2 => ?_
    simp only [sSeq, sNil, sPass, sBreak, sCont, sDrop, sRet, sRetN, sIf, sSet, sSetC, sFor, sAsg, fCon, fOp, f2, fV, fE, fCell, fT, gYes, gAnd, gOr, gNot, fAnd, fOr, fNot, fIf, fNeg, fCh, fCall, fCallK, fCons, fNil, fTup, fLst, fDnew, rNil, rCons, fBlt, fRg, fAny, fLc, fSl, fO, fNoO, gNm, gPut, fM1, fBits, kEq, kNe, enOf, wipeS, unwS, List.getElem?_cons_zero, List.getElem?_cons_succ, List.set_cons_zero, List.set_cons_succ, List.append_nil, List.nil_append, List.cons_append, if_true, if_false, if_pos, Bool.false_eq_true, true_and, and_true, exists_eq_left', exists_eq_left, exists_and_left, D.int.injEq, D.str.injEq, D.lst.injEq, Option.some.injEq, exists_const, ite_true, ite_false, Bool.not_true, Bool.not_false, Bool.false_xor, Bool.true_xor, reduceIte, tyD, x_fVar, x_fv1, x_fv2, x_tl, x_td, x_fz1, x_fz2, x_fz3, x_fzS1, x_fzS2, x_vw_non, x_vw_bl, x_vw_int, x_vw_str, x_vw_lst, x_vw_tup, x_vw_dic, x_vw_raw, x_vw_loc, x_vwL, x_vw_new, x_vw_slo, x_vwS1, x_vwS2, x_isI, x_isB, x_add_i, x_add_s, x_add_l, x_add_t, x_mul_i, x_mul_s, x_mul_l, x_sub, x_mod, x_div, x_pow, x_lt_i, x_gt_i, x_le_i, x_ge_i, x_lt_s, x_gt_s, x_le_s, x_ge_s, x_in_s, x_in_ds, x_in_di, x_in_l, x_in_t, x_ix_l, x_ix_t, x_ix_s, x_ix_ds, x_ix_di, x_is, x_sl_l, x_sl_s, x_sl_t, x_len_l, x_len_t, x_len_s, x_len_d, x_list_l, x_list_t, x_sum, x_max, x_min, x_isi, x_rg1, x_rg2, x_rg3, x_wk_l, x_wk_t, x_wk_s, x_wk_d, x_enum, x_enS, x_zip, x_ziS, x_items, x_itS, x_values, x_vaS, x_rt1, x_rt2, x_rt3, x_rtS1, x_rtS2, x_set1, x_set2, x_set3, x_cell1, x_cell2, x_cell3, x_on1, x_on2, x_onS1, x_onS2, x_onL, x_put_l, x_put_ds, x_put_di, x_app, x_isL, x_mLst, x_tp, x_gs0, x_gs1, x_par2, x_par3, x_p2S, x_p3S, x_keep1, x_keep2, x_keep3, x_wR0, x_wR1, x_uR0, x_uR1, x_vws0, x_vws1, atI_0, atI_1, atI_2, atI_3, ixN_0, ixN_1, ixN_2, ixN_3, cmp_int, cmp_str, cmp_bl, eqD_int, eqD_str, eqD_bl, tT_NoneType, tT_bool, tT_int, tT_str, tT_list, tT_tuple, tT_dict, tN_int, tN_bool, tN_str, tN_list, tN_tuple, tN_dict, iT_NoneType_int, iT_NoneType_bool, iT_NoneType_str, iT_NoneType_list, iT_NoneType_tuple, iT_NoneType_dict, iT_bool_int, iT_bool_bool, iT_bool_str, iT_bool_list, iT_bool_tuple, iT_bool_dict, iT_int_int, iT_int_bool, iT_int_str, iT_int_list, iT_int_tuple, iT_int_dict, iT_str_int, iT_str_bool, iT_str_str, iT_str_list, iT_str_tuple, iT_str_dict, iT_list_int, iT_list_bool, iT_list_str, iT_list_list, iT_list_tuple, iT_list_dict, iT_tuple_int, iT_tuple_bool, iT_tuple_str, iT_tuple_list, iT_tuple_tuple, iT_tuple_dict, iT_dict_int, iT_dict_bool, iT_dict_str, iT_dict_list, iT_dict_tuple, iT_dict_dict]
    refine ⟨by decide, hN2 _ ?_⟩
    refine seq_i fun N3 hN3 => ?_
    simp only [sSeq, sNil, sPass, sBreak, sCont, sDrop, sRet, sRetN, sIf, sSet, sSetC, sFor, sAsg, fCon, fOp, f2, fV, fE, fCell, fT, gYes, gAnd, gOr, gNot, fAnd, fOr, fNot, fIf, fNeg, fCh, fCall, fCallK, fCons, fNil, fTup, fLst, fDnew, rNil, rCons, fBlt, fRg, fAny, fLc, fSl, fO, fNoO, gNm, gPut, fM1, fBits, kEq, kNe, enOf, wipeS, unwS, List.getElem?_cons_zero, List.getElem?_cons_succ, List.set_cons_zero, List.set_cons_succ, List.append_nil, List.nil_append, List.cons_append, if_true, if_false, if_pos, Bool.false_eq_true, true_and, and_true, exists_eq_left', exists_eq_left, exists_and_left, D.int.injEq, D.str.injEq, D.lst.injEq, Option.some.injEq, exists_const, ite_true, ite_false, Bool.not_true, Bool.not_false, Bool.false_xor, Bool.true_xor, reduceIte, tyD, x_fVar, x_fv1, x_fv2, x_tl, x_td, x_fz1, x_fz2, x_fz3, x_fzS1, x_fzS2, x_vw_non, x_vw_bl, x_vw_int, x_vw_str, x_vw_lst, x_vw_tup, x_vw_dic, x_vw_raw, x_vw_loc, x_vwL, x_vw_new, x_vw_slo, x_vwS1, x_vwS2, x_isI, x_isB, x_add_i, x_add_s, x_add_l, x_add_t, x_mul_i, x_mul_s, x_mul_l, x_sub, x_mod, x_div, x_pow, x_lt_i, x_gt_i, x_le_i, x_ge_i, x_lt_s, x_gt_s, x_le_s, x_ge_s, x_in_s, x_in_ds, x_in_di, x_in_l, x_in_t, x_ix_l, x_ix_t, x_ix_s, x_ix_ds, x_ix_di, x_is, x_sl_l, x_sl_s, x_sl_t, x_len_l, x_len_t, x_len_s, x_len_d, x_list_l, x_list_t, x_sum, x_max, x_min, x_isi, x_rg1, x_rg2, x_rg3, x_wk_l, x_wk_t, x_wk_s, x_wk_d, x_enum, x_enS, x_zip, x_ziS, x_items, x_itS, x_values, x_vaS, x_rt1, x_rt2, x_rt3, x_rtS1, x_rtS2, x_set1, x_set2, x_set3, x_cell1, x_cell2, x_cell3, x_on1, x_on2, x_onS1, x_onS2, x_onL, x_put_l, x_put_ds, x_put_di, x_app, x_isL, x_mLst, x_tp, x_gs0, x_gs1, x_par2, x_par3, x_p2S, x_p3S, x_keep1, x_keep2, x_keep3, x_wR0, x_wR1, x_uR0, x_uR1, x_vws0, x_vws1, atI_0, atI_1, atI_2, atI_3, ixN_0, ixN_1, ixN_2, ixN_3, cmp_int, cmp_str, cmp_bl, eqD_int, eqD_str, eqD_bl, tT_NoneType, tT_bool, tT_int, tT_str, tT_list, tT_tuple, tT_dict, tN_int, tN_bool, tN_str, tN_list, tN_tuple, tN_dict, iT_NoneType_int, iT_NoneType_bool, iT_NoneType_str, iT_NoneType_list, iT_NoneType_tuple, iT_NoneType_dict, iT_bool_int, iT_bool_bool, iT_bool_str, iT_bool_list, iT_bool_tuple, iT_bool_dict, iT_int_int, iT_int_bool, iT_int_str, iT_int_list, iT_int_tuple, iT_int_dict, iT_str_int, iT_str_bool, iT_str_str, iT_str_list, iT_str_tuple, iT_str_dict, iT_list_int, iT_list_bool, iT_list_str, iT_list_list, iT_list_tuple, iT_list_dict, iT_tuple_int, iT_tuple_bool, iT_tuple_str, iT_tuple_list, iT_tuple_tuple, iT_tuple_dict, iT_dict_int, iT_dict_bool, iT_dict_str, iT_dict_list, iT_dict_tuple, iT_dict_dict]
    refine ⟨small62_of (by omega) (by omega), ?_⟩
    have e2 : ((i : Int) + 1).toNat = i + 1 := by omega
    rw [e2]
    refine loop_inv (fun k s => ∃ z v w, s = ⟨[.val (.int n), .val (.lst (chL n)), .val (.lst ((waysL n).map D.int)), .own (.lst ((caL n i).map dI)), .val (.int i), .own (.lst ((List.range k).map fun stays => .int (caN n i stays (caL n i) (i - stays - 1)))), z, v, w], S⟩) ⟨z, v, w, rfl⟩ ?_ ?_
    · rintro k d s hd ⟨z, v, w, rfl⟩ P hP
      obtain ⟨hk, rfl⟩ := upI_at hd
      rw [Int.zero_add]
      have hs : L2.atI ((pasc i).map D.int) (k : Int) = some (.int ((pasc i).getD k 0)) := dI_at (by rw [pasc_len]; omega)
      refine seq_i fun N4 hN4 => ?_
      simp only [sSeq, sNil, sPass, sBreak, sCont, sDrop, sRet, sRetN, sIf, sSet, sSetC, sFor, sAsg, fCon, fOp, f2, fV, fE, fCell, fT, gYes, gAnd, gOr, gNot, fAnd, fOr, fNot, fIf, fNeg, fCh, fCall, fCallK, fCons, fNil, fTup, fLst, fDnew, rNil, rCons, fBlt, fRg, fAny, fLc, fSl, fO, fNoO, gNm, gPut, fM1, fBits, kEq, kNe, enOf, wipeS, unwS, List.getElem?_cons_zero, List.getElem?_cons_succ, List.set_cons_zero, List.set_cons_succ, List.append_nil, List.nil_append, List.cons_append, if_true, if_false, if_pos, Bool.false_eq_true, true_and, and_true, exists_eq_left', exists_eq_left, exists_and_left, D.int.injEq, D.str.injEq, D.lst.injEq, Option.some.injEq, exists_const, ite_true, ite_false, Bool.not_true, Bool.not_false, Bool.false_xor, Bool.true_xor, reduceIte, tyD, x_fVar, x_fv1, x_fv2, x_tl, x_td, x_fz1, x_fz2, x_fz3, x_fzS1, x_fzS2, x_vw_non, x_vw_bl, x_vw_int, x_vw_str, x_vw_lst, x_vw_tup, x_vw_dic, x_vw_raw, x_vw_loc, x_vwL, x_vw_new, x_vw_slo, x_vwS1, x_vwS2, x_isI, x_isB, x_add_i, x_add_s, x_add_l, x_add_t, x_mul_i, x_mul_s, x_mul_l, x_sub, x_mod, x_div, x_pow, x_lt_i, x_gt_i, x_le_i, x_ge_i, x_lt_s, x_gt_s, x_le_s, x_ge_s, x_in_s, x_in_ds, x_in_di, x_in_l, x_in_t, x_ix_l, x_ix_t, x_ix_s, x_ix_ds, x_ix_di, x_is, x_sl_l, x_sl_s, x_sl_t, x_len_l, x_len_t, x_len_s, x_len_d, x_list_l, x_list_t, x_sum, x_max, x_min, x_isi, x_rg1, x_rg2, x_rg3, x_wk_l, x_wk_t, x_wk_s, x_wk_d, x_enum, x_enS, x_zip, x_ziS, x_items, x_itS, x_values, x_vaS, x_rt1, x_rt2, x_rt3, x_rtS1, x_rtS2, x_set1, x_set2, x_set3, x_cell1, x_cell2, x_cell3, x_on1, x_on2, x_onS1, x_onS2, x_onL, x_put_l, x_put_ds, x_put_di, x_app, x_isL, x_mLst, x_tp, x_gs0, x_gs1, x_par2, x_par3, x_p2S, x_p3S, x_keep1, x_keep2, x_keep3, x_wR0, x_wR1, x_uR0, x_uR1, x_vws0, x_vws1, atI_0, atI_1, atI_2, atI_3, ixN_0, ixN_1, ixN_2, ixN_3, cmp_int, cmp_str, cmp_bl, eqD_int, eqD_str, eqD_bl, tT_NoneType, tT_bool, tT_int, tT_str, tT_list, tT_tuple, tT_dict, tN_int, tN_bool, tN_str, tN_list, tN_tuple, tN_dict, iT_NoneType_int, iT_NoneType_bool, iT_NoneType_str, iT_NoneType_list, iT_NoneType_tuple, iT_NoneType_dict, iT_bool_int, iT_bool_bool, iT_bool_str, iT_bool_list, iT_bool_tuple, iT_bool_dict, iT_int_int, iT_int_bool, iT_int_str, iT_int_list, iT_int_tuple, iT_int_dict, iT_str_int, iT_str_bool, iT_str_str, iT_str_list, iT_str_tuple, iT_str_dict, iT_list_int, iT_list_bool, iT_list_str, iT_list_list, iT_list_tuple, iT_list_dict, iT_tuple_int, iT_tuple_bool, iT_tuple_str, iT_tuple_list, iT_tuple_tuple, iT_tuple_dict, iT_dict_int, iT_dict_bool, iT_dict_str, iT_dict_list, iT_dict_tuple, iT_dict_dict, chL_at (show i ≤ n by omega), hs]
      refine ⟨(i : Int) - 1, i - k, by rw [show (i : Int) - (k : Int) = ((i - k : Nat) : Int) by omega], by omega, by omega, ?_⟩
      simp only [sSeq, sNil, sPass, sBreak, sCont, sDrop, sRet, sRetN, sIf, sSet, sSetC, sFor, sAsg, fCon, fOp, f2, fV, fE, fCell, fT, gYes, gAnd, gOr, gNot, fAnd, fOr, fNot, fIf, fNeg, fCh, fCall, fCallK, fCons, fNil, fTup, fLst, fDnew, rNil, rCons, fBlt, fRg, fAny, fLc, fSl, fO, fNoO, gNm, gPut, fM1, fBits, kEq, kNe, enOf, wipeS, unwS, List.getElem?_cons_zero, List.getElem?_cons_succ, List.set_cons_zero, List.set_cons_succ, List.append_nil, List.nil_append, List.cons_append, if_true, if_false, if_pos, Bool.false_eq_true, true_and, and_true, exists_eq_left', exists_eq_left, exists_and_left, D.int.injEq, D.str.injEq, D.lst.injEq, Option.some.injEq, exists_const, ite_true, ite_false, Bool.not_true, Bool.not_false, Bool.false_xor, Bool.true_xor, reduceIte, tyD, x_fVar, x_fv1, x_fv2, x_tl, x_td, x_fz1, x_fz2, x_fz3, x_fzS1, x_fzS2, x_vw_non, x_vw_bl, x_vw_int, x_vw_str, x_vw_lst, x_vw_tup, x_vw_dic, x_vw_raw, x_vw_loc, x_vwL, x_vw_new, x_vw_slo, x_vwS1, x_vwS2, x_isI, x_isB, x_add_i, x_add_s, x_add_l, x_add_t, x_mul_i, x_mul_s, x_mul_l, x_sub, x_mod, x_div, x_pow, x_lt_i, x_gt_i, x_le_i, x_ge_i, x_lt_s, x_gt_s, x_le_s, x_ge_s, x_in_s, x_in_ds, x_in_di, x_in_l, x_in_t, x_ix_l, x_ix_t, x_ix_s, x_ix_ds, x_ix_di, x_is, x_sl_l, x_sl_s, x_sl_t, x_len_l, x_len_t, x_len_s, x_len_d, x_list_l, x_list_t, x_sum, x_max, x_min, x_isi, x_rg1, x_rg2, x_rg3, x_wk_l, x_wk_t, x_wk_s, x_wk_d, x_enum, x_enS, x_zip, x_ziS, x_items, x_itS, x_values, x_vaS, x_rt1, x_rt2, x_rt3, x_rtS1, x_rtS2, x_set1, x_set2, x_set3, x_cell1, x_cell2, x_cell3, x_on1, x_on2, x_onS1, x_onS2, x_onL, x_put_l, x_put_ds, x_put_di, x_app, x_isL, x_mLst, x_tp, x_gs0, x_gs1, x_par2, x_par3, x_p2S, x_p3S, x_keep1, x_keep2, x_keep3, x_wR0, x_wR1, x_uR0, x_uR1, x_vws0, x_vws1, atI_0, atI_1, atI_2, atI_3, ixN_0, ixN_1, ixN_2, ixN_3, cmp_int, cmp_str, cmp_bl, eqD_int, eqD_str, eqD_bl, tT_NoneType, tT_bool, tT_int, tT_str, tT_list, tT_tuple, tT_dict, tN_int, tN_bool, tN_str, tN_list, tN_tuple, tN_dict, iT_NoneType_int, iT_NoneType_bool, iT_NoneType_str, iT_NoneType_list, iT_NoneType_tuple, iT_NoneType_dict, iT_bool_int, iT_bool_bool, iT_bool_str, iT_bool_list, iT_bool_tuple, iT_bool_dict, iT_int_int, iT_int_bool, iT_int_str, iT_int_list, iT_int_tuple, iT_int_dict, iT_str_int, iT_str_bool, iT_str_str, iT_str_list, iT_str_tuple, iT_str_dict, iT_list_int, iT_list_bool, iT_list_str, iT_list_list, iT_list_tuple, iT_list_dict, iT_tuple_int, iT_tuple_bool, iT_tuple_str, iT_tuple_list, iT_tuple_tuple, iT_tuple_dict, iT_dict_int, iT_dict_bool, iT_dict_str, iT_dict_list, iT_dict_tuple, iT_dict_dict]
      refine ⟨mulok (.inl (all_getD (pasc_small i (by omega)) k)), hN4 _ ?_⟩
      refine seq_i fun N5 hN5 => ?_
      simp only [sSeq, sNil, sPass, sBreak, sCont, sDrop, sRet, sRetN, sIf, sSet, sSetC, sFor, sAsg, fCon, fOp, f2, fV, fE, fCell, fT, gYes, gAnd, gOr, gNot, fAnd, fOr, fNot, fIf, fNeg, fCh, fCall, fCallK, fCons, fNil, fTup, fLst, fDnew, rNil, rCons, fBlt, fRg, fAny, fLc, fSl, fO, fNoO, gNm, gPut, fM1, fBits, kEq, kNe, enOf, wipeS, unwS, List.getElem?_cons_zero, List.getElem?_cons_succ, List.set_cons_zero, List.set_cons_succ, List.append_nil, List.nil_append, List.cons_append, if_true, if_false, if_pos, Bool.false_eq_true, true_and, and_true, exists_eq_left', exists_eq_left, exists_and_left, D.int.injEq, D.str.injEq, D.lst.injEq, Option.some.injEq, exists_const, ite_true, ite_false, Bool.not_true, Bool.not_false, Bool.false_xor, Bool.true_xor, reduceIte, tyD, x_fVar, x_fv1, x_fv2, x_tl, x_td, x_fz1, x_fz2, x_fz3, x_fzS1, x_fzS2, x_vw_non, x_vw_bl, x_vw_int, x_vw_str, x_vw_lst, x_vw_tup, x_vw_dic, x_vw_raw, x_vw_loc, x_vwL, x_vw_new, x_vw_slo, x_vwS1, x_vwS2, x_isI, x_isB, x_add_i, x_add_s, x_add_l, x_add_t, x_mul_i, x_mul_s, x_mul_l, x_sub, x_mod, x_div, x_pow, x_lt_i, x_gt_i, x_le_i, x_ge_i, x_lt_s, x_gt_s, x_le_s, x_ge_s, x_in_s, x_in_ds, x_in_di, x_in_l, x_in_t, x_ix_l, x_ix_t, x_ix_s, x_ix_ds, x_ix_di, x_is, x_sl_l, x_sl_s, x_sl_t, x_len_l, x_len_t, x_len_s, x_len_d, x_list_l, x_list_t, x_sum, x_max, x_min, x_isi, x_rg1, x_rg2, x_rg3, x_wk_l, x_wk_t, x_wk_s, x_wk_d, x_enum, x_enS, x_zip, x_ziS, x_items, x_itS, x_values, x_vaS, x_rt1, x_rt2, x_rt3, x_rtS1, x_rtS2, x_set1, x_set2, x_set3, x_cell1, x_cell2, x_cell3, x_on1, x_on2, x_onS1, x_onS2, x_onL, x_put_l, x_put_ds, x_put_di, x_app, x_isL, x_mLst, x_tp, x_gs0, x_gs1, x_par2, x_par3, x_p2S, x_p3S, x_keep1, x_keep2, x_keep3, x_wR0, x_wR1, x_uR0, x_uR1, x_vws0, x_vws1, atI_0, atI_1, atI_2, atI_3, ixN_0, ixN_1, ixN_2, ixN_3, cmp_int, cmp_str, cmp_bl, eqD_int, eqD_str, eqD_bl, tT_NoneType, tT_bool, tT_int, tT_str, tT_list, tT_tuple, tT_dict, tN_int, tN_bool, tN_str, tN_list, tN_tuple, tN_dict, iT_NoneType_int, iT_NoneType_bool, iT_NoneType_str, iT_NoneType_list, iT_NoneType_tuple, iT_NoneType_dict, iT_bool_int, iT_bool_bool, iT_bool_str, iT_bool_list, iT_bool_tuple, iT_bool_dict, iT_int_int, iT_int_bool, iT_int_str, iT_int_list, iT_int_tuple, iT_int_dict, iT_str_int, iT_str_bool, iT_str_str, iT_str_list, iT_str_tuple, iT_str_dict, iT_list_int, iT_list_bool, iT_list_str, iT_list_list, iT_list_tuple, iT_list_dict, iT_tuple_int, iT_tuple_bool, iT_tuple_str, iT_tuple_list, iT_tuple_tuple, iT_tuple_dict, iT_dict_int, iT_dict_bool, iT_dict_str, iT_dict_list, iT_dict_tuple, iT_dict_dict]
      refine ⟨⟨small62_of (by decide) (by decide), small62_of (by omega) (by omega)⟩, ?_⟩
      have e3 : ((i : Int) - (k : Int) + 1 - 2).toNat = i - k - 1 := by omega
      rw [e3]
      refine loop_inv (fun j s => ∃ w, s = ⟨[.val (.int n), .val (.lst (chL n)), .val (.lst ((waysL n).map D.int)), .own (.lst ((caL n i).map dI)), .val (.int i), .own (.lst ((List.range k).map fun stays => .int (caN n i stays (caL n i) (i - stays - 1)))), .val (.int k), .val (.int (caN n i k (caL n i) j)), w], S⟩) ⟨w, rfl⟩ ?_ ?_
      · rintro j d s hd ⟨w, rfl⟩ P hP
        obtain ⟨hj, rfl⟩ := upI_at hd
        have q1 : (2 : Int) + (j : Int) = ((j + 2 : Nat) : Int) := by omega
        have q2 : (i : Int) - ((j + 2 : Nat) : Int) = ((i - (j + 2) : Nat) : Int) := by omega
        have hs2 : L2.atI ((pasc i).map D.int) ((j + 2 : Nat) : Int) = some (.int ((pasc i).getD (j + 2) 0)) := dI_at (by rw [pasc_len]; omega)
        have hw : L2.atI ((waysL n).map D.int) ((j + 2 : Nat) : Int) = some (.int ((waysL n).getD (j + 2) 0)) := dI_at (by unfold waysL; rw [List.length_map, List.length_range]; omega)
        have hf : L2.atI ((caL n i).map dI) ((i - (j + 2) : Nat) : Int) = some (.lst (((caL n i).getD (i - (j + 2)) []).map D.int)) := dII_at (by rw [caL_len]; omega)
        have hf2 : L2.atI (((caL n i).getD (i - (j + 2)) []).map D.int) (k : Int) = some (.int (((caL n i).getD (i - (j + 2)) []).getD k 0)) := dI_at (by rw [caL_at _ _ _ (by omega)]; unfold caR; rw [List.length_map, List.length_range]; omega)
        rw [q1]
        simp only [sSeq, sNil, sPass, sBreak, sCont, sDrop, sRet, sRetN, sIf, sSet, sSetC, sFor, sAsg, fCon, fOp, f2, fV, fE, fCell, fT, gYes, gAnd, gOr, gNot, fAnd, fOr, fNot, fIf, fNeg, fCh, fCall, fCallK, fCons, fNil, fTup, fLst, fDnew, rNil, rCons, fBlt, fRg, fAny, fLc, fSl, fO, fNoO, gNm, gPut, fM1, fBits, kEq, kNe, enOf, wipeS, unwS, List.getElem?_cons_zero, List.getElem?_cons_succ, List.set_cons_zero, List.set_cons_succ, List.append_nil, List.nil_append, List.cons_append, if_true, if_false, if_pos, Bool.false_eq_true, true_and, and_true, exists_eq_left', exists_eq_left, exists_and_left, D.int.injEq, D.str.injEq, D.lst.injEq, Option.some.injEq, exists_const, ite_true, ite_false, Bool.not_true, Bool.not_false, Bool.false_xor, Bool.true_xor, reduceIte, tyD, x_fVar, x_fv1, x_fv2, x_tl, x_td, x_fz1, x_fz2, x_fz3, x_fzS1, x_fzS2, x_vw_non, x_vw_bl, x_vw_int, x_vw_str, x_vw_lst, x_vw_tup, x_vw_dic, x_vw_raw, x_vw_loc, x_vwL, x_vw_new, x_vw_slo, x_vwS1, x_vwS2, x_isI, x_isB, x_add_i, x_add_s, x_add_l, x_add_t, x_mul_i, x_mul_s, x_mul_l, x_sub, x_mod, x_div, x_pow, x_lt_i, x_gt_i, x_le_i, x_ge_i, x_lt_s, x_gt_s, x_le_s, x_ge_s, x_in_s, x_in_ds, x_in_di, x_in_l, x_in_t, x_ix_l, x_ix_t, x_ix_s, x_ix_ds, x_ix_di, x_is, x_sl_l, x_sl_s, x_sl_t, x_len_l, x_len_t, x_len_s, x_len_d, x_list_l, x_list_t, x_sum, x_max, x_min, x_isi, x_rg1, x_rg2, x_rg3, x_wk_l, x_wk_t, x_wk_s, x_wk_d, x_enum, x_enS, x_zip, x_ziS, x_items, x_itS, x_values, x_vaS, x_rt1, x_rt2, x_rt3, x_rtS1, x_rtS2, x_set1, x_set2, x_set3, x_cell1, x_cell2, x_cell3, x_on1, x_on2, x_onS1, x_onS2, x_onL, x_put_l, x_put_ds, x_put_di, x_app, x_isL, x_mLst, x_tp, x_gs0, x_gs1, x_par2, x_par3, x_p2S, x_p3S, x_keep1, x_keep2, x_keep3, x_wR0, x_wR1, x_uR0, x_uR1, x_vws0, x_vws1, atI_0, atI_1, atI_2, atI_3, ixN_0, ixN_1, ixN_2, ixN_3, cmp_int, cmp_str, cmp_bl, eqD_int, eqD_str, eqD_bl, tT_NoneType, tT_bool, tT_int, tT_str, tT_list, tT_tuple, tT_dict, tN_int, tN_bool, tN_str, tN_list, tN_tuple, tN_dict, iT_NoneType_int, iT_NoneType_bool, iT_NoneType_str, iT_NoneType_list, iT_NoneType_tuple, iT_NoneType_dict, iT_bool_int, iT_bool_bool, iT_bool_str, iT_bool_list, iT_bool_tuple, iT_bool_dict, iT_int_int, iT_int_bool, iT_int_str, iT_int_list, iT_int_tuple, iT_int_dict, iT_str_int, iT_str_bool, iT_str_str, iT_str_list, iT_str_tuple, iT_str_dict, iT_list_int, iT_list_bool, iT_list_str, iT_list_list, iT_list_tuple, iT_list_dict, iT_tuple_int, iT_tuple_bool, iT_tuple_str, iT_tuple_list, iT_tuple_tuple, iT_tuple_dict, iT_dict_int, iT_dict_bool, iT_dict_str, iT_dict_list, iT_dict_tuple, iT_dict_dict, chL_at (show i ≤ n by omega), hs2, hw, q2, hf, hf2]
        exact ⟨mulok (.inl (all_getD (pasc_small i (by omega)) (j + 2))), mulok (.inr (ca_bound hn (by omega) _ _ (by omega))), hP _ ⟨_, rfl⟩⟩
      · rintro s ⟨w, rfl⟩
        rw [upI_len]
        refine hN5 _ ?_
        simp only [sSeq, sNil, sPass, sBreak, sCont, sDrop, sRet, sRetN, sIf, sSet, sSetC, sFor, sAsg, fCon, fOp, f2, fV, fE, fCell, fT, gYes, gAnd, gOr, gNot, fAnd, fOr, fNot, fIf, fNeg, fCh, fCall, fCallK, fCons, fNil, fTup, fLst, fDnew, rNil, rCons, fBlt, fRg, fAny, fLc, fSl, fO, fNoO, gNm, gPut, fM1, fBits, kEq, kNe, enOf, wipeS, unwS, List.getElem?_cons_zero, List.getElem?_cons_succ, List.set_cons_zero, List.set_cons_succ, List.append_nil, List.nil_append, List.cons_append, if_true, if_false, if_pos, Bool.false_eq_true, true_and, and_true, exists_eq_left', exists_eq_left, exists_and_left, D.int.injEq, D.str.injEq, D.lst.injEq, Option.some.injEq, exists_const, ite_true, ite_false, Bool.not_true, Bool.not_false, Bool.false_xor, Bool.true_xor, reduceIte, tyD, x_fVar, x_fv1, x_fv2, x_tl, x_td, x_fz1, x_fz2, x_fz3, x_fzS1, x_fzS2, x_vw_non, x_vw_bl, x_vw_int, x_vw_str, x_vw_lst, x_vw_tup, x_vw_dic, x_vw_raw, x_vw_loc, x_vwL, x_vw_new, x_vw_slo, x_vwS1, x_vwS2, x_isI, x_isB, x_add_i, x_add_s, x_add_l, x_add_t, x_mul_i, x_mul_s, x_mul_l, x_sub, x_mod, x_div, x_pow, x_lt_i, x_gt_i, x_le_i, x_ge_i, x_lt_s, x_gt_s, x_le_s, x_ge_s, x_in_s, x_in_ds, x_in_di, x_in_l, x_in_t, x_ix_l, x_ix_t, x_ix_s, x_ix_ds, x_ix_di, x_is, x_sl_l, x_sl_s, x_sl_t, x_len_l, x_len_t, x_len_s, x_len_d, x_list_l, x_list_t, x_sum, x_max, x_min, x_isi, x_rg1, x_rg2, x_rg3, x_wk_l, x_wk_t, x_wk_s, x_wk_d, x_enum, x_enS, x_zip, x_ziS, x_items, x_itS, x_values, x_vaS, x_rt1, x_rt2, x_rt3, x_rtS1, x_rtS2, x_set1, x_set2, x_set3, x_cell1, x_cell2, x_cell3, x_on1, x_on2, x_onS1, x_onS2, x_onL, x_put_l, x_put_ds, x_put_di, x_app, x_isL, x_mLst, x_tp, x_gs0, x_gs1, x_par2, x_par3, x_p2S, x_p3S, x_keep1, x_keep2, x_keep3, x_wR0, x_wR1, x_uR0, x_uR1, x_vws0, x_vws1, atI_0, atI_1, atI_2, atI_3, ixN_0, ixN_1, ixN_2, ixN_3, cmp_int, cmp_str, cmp_bl, eqD_int, eqD_str, eqD_bl, tT_NoneType, tT_bool, tT_int, tT_str, tT_list, tT_tuple, tT_dict, tN_int, tN_bool, tN_str, tN_list, tN_tuple, tN_dict, iT_NoneType_int, iT_NoneType_bool, iT_NoneType_str, iT_NoneType_list, iT_NoneType_tuple, iT_NoneType_dict, iT_bool_int, iT_bool_bool, iT_bool_str, iT_bool_list, iT_bool_tuple, iT_bool_dict, iT_int_int, iT_int_bool, iT_int_str, iT_int_list, iT_int_tuple, iT_int_dict, iT_str_int, iT_str_bool, iT_str_str, iT_str_list, iT_str_tuple, iT_str_dict, iT_list_int, iT_list_bool, iT_list_str, iT_list_list, iT_list_tuple, iT_list_dict, iT_tuple_int, iT_tuple_bool, iT_tuple_str, iT_tuple_list, iT_tuple_tuple, iT_tuple_dict, iT_dict_int, iT_dict_bool, iT_dict_str, iT_dict_list, iT_dict_tuple, iT_dict_dict, List.length_map, List.length_range]
        refine ⟨by rw [szl]; omega, hP _ ⟨.val (.int k), .val (.int (caN n i k (caL n i) (i - k - 1))), w, ?_⟩⟩
        rw [List.range_succ, List.map_append]
        rfl
    · rintro s ⟨z, v, w, rfl⟩
      rw [upI_len]
      refine hN3 _ ?_
      simp only [sSeq, sNil, sPass, sBreak, sCont, sDrop, sRet, sRetN, sIf, sSet, sSetC, sFor, sAsg, fCon, fOp, f2, fV, fE, fCell, fT, gYes, gAnd, gOr, gNot, fAnd, fOr, fNot, fIf, fNeg, fCh, fCall, fCallK, fCons, fNil, fTup, fLst, fDnew, rNil, rCons, fBlt, fRg, fAny, fLc, fSl, fO, fNoO, gNm, gPut, fM1, fBits, kEq, kNe, enOf, wipeS, unwS, List.getElem?_cons_zero, List.getElem?_cons_succ, List.set_cons_zero, List.set_cons_succ, List.append_nil, List.nil_append, List.cons_append, if_true, if_false, if_pos, Bool.false_eq_true, true_and, and_true, exists_eq_left', exists_eq_left, exists_and_left, D.int.injEq, D.str.injEq, D.lst.injEq, Option.some.injEq, exists_const, ite_true, ite_false, Bool.not_true, Bool.not_false, Bool.false_xor, Bool.true_xor, reduceIte, tyD, x_fVar, x_fv1, x_fv2, x_tl, x_td, x_fz1, x_fz2, x_fz3, x_fzS1, x_fzS2, x_vw_non, x_vw_bl, x_vw_int, x_vw_str, x_vw_lst, x_vw_tup, x_vw_dic, x_vw_raw, x_vw_loc, x_vwL, x_vw_new, x_vw_slo, x_vwS1, x_vwS2, x_isI, x_isB, x_add_i, x_add_s, x_add_l, x_add_t, x_mul_i, x_mul_s, x_mul_l, x_sub, x_mod, x_div, x_pow, x_lt_i, x_gt_i, x_le_i, x_ge_i, x_lt_s, x_gt_s, x_le_s, x_ge_s, x_in_s, x_in_ds, x_in_di, x_in_l, x_in_t, x_ix_l, x_ix_t, x_ix_s, x_ix_ds, x_ix_di, x_is, x_sl_l, x_sl_s, x_sl_t, x_len_l, x_len_t, x_len_s, x_len_d, x_list_l, x_list_t, x_sum, x_max, x_min, x_isi, x_rg1, x_rg2, x_rg3, x_wk_l, x_wk_t, x_wk_s, x_wk_d, x_enum, x_enS, x_zip, x_ziS, x_items, x_itS, x_values, x_vaS, x_rt1, x_rt2, x_rt3, x_rtS1, x_rtS2, x_set1, x_set2, x_set3, x_cell1, x_cell2, x_cell3, x_on1, x_on2, x_onS1, x_onS2, x_onL, x_put_l, x_put_ds, x_put_di, x_app, x_isL, x_mLst, x_tp, x_gs0, x_gs1, x_par2, x_par3, x_p2S, x_p3S, x_keep1, x_keep2, x_keep3, x_wR0, x_wR1, x_uR0, x_uR1, x_vws0, x_vws1, atI_0, atI_1, atI_2, atI_3, ixN_0, ixN_1, ixN_2, ixN_3, cmp_int, cmp_str, cmp_bl, eqD_int, eqD_str, eqD_bl, tT_NoneType, tT_bool, tT_int, tT_str, tT_list, tT_tuple, tT_dict, tN_int, tN_bool, tN_str, tN_list, tN_tuple, tN_dict, iT_NoneType_int, iT_NoneType_bool, iT_NoneType_str, iT_NoneType_list, iT_NoneType_tuple, iT_NoneType_dict, iT_bool_int, iT_bool_bool, iT_bool_str, iT_bool_list, iT_bool_tuple, iT_bool_dict, iT_int_int, iT_int_bool, iT_int_str, iT_int_list, iT_int_tuple, iT_int_dict, iT_str_int, iT_str_bool, iT_str_str, iT_str_list, iT_str_tuple, iT_str_dict, iT_list_int, iT_list_bool, iT_list_str, iT_list_list, iT_list_tuple, iT_list_dict, iT_tuple_int, iT_tuple_bool, iT_tuple_str, iT_tuple_list, iT_tuple_tuple, iT_tuple_dict, iT_dict_int, iT_dict_bool, iT_dict_str, iT_dict_list, iT_dict_tuple, iT_dict_dict, List.length_map, caL_len]
      refine ⟨by rw [szl]; omega, hP _ ⟨.val (.int i), .val (.lst ((caR n i (caL n i)).map D.int)), z, v, w, ?_⟩⟩
      have : (caR n i (caL n i)).map D.int = (List.range (i + 1)).map fun stays => D.int (caN n i stays (caL n i) (i - stays - 1)) := by
        unfold caR
        rw [List.map_map]
        rfl
      rw [this]
      show _ = SS.mk [_, _, _, SV.own (C.lst ((caL n i ++ [caR n i (caL n i)]).map dI)), _, _, _, _, _] _
      rw [List.map_append]
      show _ = SS.mk [_, _, _, SV.own (C.lst ((caL n i).map dI ++ [dI (caR n i (caL n i))])), _, _, _, _, _] _
      unfold dI
      rw [this]
  · rintro s ⟨x, y, z, v, w, rfl⟩
    rw [upI_len]
    refine hN1 _ ?_
    simp only [sSeq, sNil, sPass, sBreak, sCont, sDrop, sRet, sRetN, sIf, sSet, sSetC, sFor, sAsg, fCon, fOp, f2, fV, fE, fCell, fT, gYes, gAnd, gOr, gNot, fAnd, fOr, fNot, fIf, fNeg, fCh, fCall, fCallK, fCons, fNil, fTup, fLst, fDnew, rNil, rCons, fBlt, fRg, fAny, fLc, fSl, fO, fNoO, gNm, gPut, fM1, fBits, kEq, kNe, enOf, wipeS, unwS, List.getElem?_cons_zero, List.getElem?_cons_succ, List.set_cons_zero, List.set_cons_succ, List.append_nil, List.nil_append, List.cons_append, if_true, if_false, if_pos, Bool.false_eq_true, true_and, and_true, exists_eq_left', exists_eq_left, exists_and_left, D.int.injEq, D.str.injEq, D.lst.injEq, Option.some.injEq, exists_const, ite_true, ite_false, Bool.not_true, Bool.not_false, Bool.false_xor, Bool.true_xor, reduceIte, tyD, x_fVar, x_fv1, x_fv2, x_tl, x_td, x_fz1, x_fz2, x_fz3, x_fzS1, x_fzS2, x_vw_non, x_vw_bl, x_vw_int, x_vw_str, x_vw_lst, x_vw_tup, x_vw_dic, x_vw_raw, x_vw_loc, x_vwL, x_vw_new, x_vw_slo, x_vwS1, x_vwS2, x_isI, x_isB, x_add_i, x_add_s, x_add_l, x_add_t, x_mul_i, x_mul_s, x_mul_l, x_sub, x_mod, x_div, x_pow, x_lt_i, x_gt_i, x_le_i, x_ge_i, x_lt_s, x_gt_s, x_le_s, x_ge_s, x_in_s, x_in_ds, x_in_di, x_in_l, x_in_t, x_ix_l, x_ix_t, x_ix_s, x_ix_ds, x_ix_di, x_is, x_sl_l, x_sl_s, x_sl_t, x_len_l, x_len_t, x_len_s, x_len_d, x_list_l, x_list_t, x_sum, x_max, x_min, x_isi, x_rg1, x_rg2, x_rg3, x_wk_l, x_wk_t, x_wk_s, x_wk_d, x_enum, x_enS, x_zip, x_ziS, x_items, x_itS, x_values, x_vaS, x_rt1, x_rt2, x_rt3, x_rtS1, x_rtS2, x_set1, x_set2, x_set3, x_cell1, x_cell2, x_cell3, x_on1, x_on2, x_onS1, x_onS2, x_onL, x_put_l, x_put_ds, x_put_di, x_app, x_isL, x_mLst, x_tp, x_gs0, x_gs1, x_par2, x_par3, x_p2S, x_p3S, x_keep1, x_keep2, x_keep3, x_wR0, x_wR1, x_uR0, x_uR1, x_vws0, x_vws1, atI_0, atI_1, atI_2, atI_3, ixN_0, ixN_1, ixN_2, ixN_3, cmp_int, cmp_str, cmp_bl, eqD_int, eqD_str, eqD_bl, tT_NoneType, tT_bool, tT_int, tT_str, tT_list, tT_tuple, tT_dict, tN_int, tN_bool, tN_str, tN_list, tN_tuple, tN_dict, iT_NoneType_int, iT_NoneType_bool, iT_NoneType_str, iT_NoneType_list, iT_NoneType_tuple, iT_NoneType_dict, iT_bool_int, iT_bool_bool, iT_bool_str, iT_bool_list, iT_bool_tuple, iT_bool_dict, iT_int_int, iT_int_bool, iT_int_str, iT_int_list, iT_int_tuple, iT_int_dict, iT_str_int, iT_str_bool, iT_str_str, iT_str_list, iT_str_tuple, iT_str_dict, iT_list_int, iT_list_bool, iT_list_str, iT_list_list, iT_list_tuple, iT_list_dict, iT_tuple_int, iT_tuple_bool, iT_tuple_str, iT_tuple_list, iT_tuple_tuple, iT_tuple_dict, iT_dict_int, iT_dict_bool, iT_dict_str, iT_dict_list, iT_dict_tuple, iT_dict_dict]
    exact h
theorem hmT_pos {n : Nat} {st : Int} {i k g : Nat} (h : st - n + k = (g : Int)) (c : (g : Int) ≤ n) : hmT n st i k = (pasc n).getD i 0 * (rgR n i).getD g 0 * ((caL n (n + 1)).getD (n - i) []).getD k 0 := by
  unfold hmT
  dsimp only
  rw [h, if_pos ⟨Int.natCast_nonneg _, c⟩, Int.toNat_natCast]
theorem hmT_neg {n : Nat} {st : Int} {i k : Nat} (h : ¬ (0 ≤ st - n + k ∧ st - n + k ≤ n)) : hmT n st i k = 0 := by
  unfold hmT
  dsimp only
  rw [if_neg h]
theorem law_how_many : ∀ ds S G, c_how_many ds S G → fb_how_many (enOf G) (startS N_how_many ds S) := by
  rintro ds S G ⟨n, st, rfl, hn, h⟩
  show fb_how_many (enOf G) ⟨[.val (.int n), .val (.int st), .no, .no, .no, .no, .no, .no, .no, .no], S⟩
  unfold fb_how_many
  refine seq_i fun N0 hN0 => ?_
  simp only [sSeq, sNil, sPass, sBreak, sCont, sDrop, sRet, sRetN, sIf, sSet, sSetC, sFor, sAsg, fCon, fOp, f2, fV, fE, fCell, fT, gYes, gAnd, gOr, gNot, fAnd, fOr, fNot, fIf, fNeg, fCh, fCall, fCallK, fCons, fNil, fTup, fLst, fDnew, rNil, rCons, fBlt, fRg, fAny, fLc, fSl, fO, fNoO, gNm, gPut, fM1, fBits, kEq, kNe, enOf, wipeS, unwS, List.getElem?_cons_zero, List.getElem?_cons_succ, List.set_cons_zero, List.set_cons_succ, List.append_nil, List.nil_append, List.cons_append, if_true, if_false, if_pos, Bool.false_eq_true, true_and, and_true, exists_eq_left', exists_eq_left, exists_and_left, D.int.injEq, D.str.injEq, D.lst.injEq, Option.some.injEq, exists_const, ite_true, ite_false, Bool.not_true, Bool.not_false, Bool.false_xor, Bool.true_xor, reduceIte, tyD, x_fVar, x_fv1, x_fv2, x_tl, x_td, x_fz1, x_fz2, x_fz3, x_fzS1, x_fzS2, x_vw_non, x_vw_bl, x_vw_int, x_vw_str, x_vw_lst, x_vw_tup, x_vw_dic, x_vw_raw, x_vw_loc, x_vwL, x_vw_new, x_vw_slo, x_vwS1, x_vwS2, x_isI, x_isB, x_add_i, x_add_s, x_add_l, x_add_t, x_mul_i, x_mul_s, x_mul_l, x_sub, x_mod, x_div, x_pow, x_lt_i, x_gt_i, x_le_i, x_ge_i, x_lt_s, x_gt_s, x_le_s, x_ge_s, x_in_s, x_in_ds, x_in_di, x_in_l, x_in_t, x_ix_l, x_ix_t, x_ix_s, x_ix_ds, x_ix_di, x_is, x_sl_l, x_sl_s, x_sl_t, x_len_l, x_len_t, x_len_s, x_len_d, x_list_l, x_list_t, x_sum, x_max, x_min, x_isi, x_rg1, x_rg2, x_rg3, x_wk_l, x_wk_t, x_wk_s, x_wk_d, x_enum, x_enS, x_zip, x_ziS, x_items, x_itS, x_values, x_vaS, x_rt1, x_rt2, x_rt3, x_rtS1, x_rtS2, x_set1, x_set2, x_set3, x_cell1, x_cell2, x_cell3, x_on1, x_on2, x_onS1, x_onS2, x_onL, x_put_l, x_put_ds, x_put_di, x_app, x_isL, x_mLst, x_tp, x_gs0, x_gs1, x_par2, x_par3, x_p2S, x_p3S, x_keep1, x_keep2, x_keep3, x_wR0, x_wR1, x_uR0, x_uR1, x_vws0, x_vws1, atI_0, atI_1, atI_2, atI_3, ixN_0, ixN_1, ixN_2, ixN_3, cmp_int, cmp_str, cmp_bl, eqD_int, eqD_str, eqD_bl, tT_NoneType, tT_bool, tT_int, tT_str, tT_list, tT_tuple, tT_dict, tN_int, tN_bool, tN_str, tN_list, tN_tuple, tN_dict, iT_NoneType_int, iT_NoneType_bool, iT_NoneType_str, iT_NoneType_list, iT_NoneType_tuple, iT_NoneType_dict, iT_bool_int, iT_bool_bool, iT_bool_str, iT_bool_list, iT_bool_tuple, iT_bool_dict, iT_int_int, iT_int_bool, iT_int_str, iT_int_list, iT_int_tuple, iT_int_dict, iT_str_int, iT_str_bool, iT_str_str, iT_str_list, iT_str_tuple, iT_str_dict, iT_list_int, iT_list_bool, iT_list_str, iT_list_list, iT_list_tuple, iT_list_dict, iT_tuple_int, iT_tuple_bool, iT_tuple_str, iT_tuple_list, iT_tuple_tuple, iT_tuple_dict, iT_dict_int, iT_dict_bool, iT_dict_str, iT_dict_list, iT_dict_tuple, iT_dict_dict]
  refine ⟨n, rfl, by omega, hN0 _ ?_⟩
  refine seq_i fun N1 hN1 => ?_
  simp only [sSeq, sNil, sPass, sBreak, sCont, sDrop, sRet, sRetN, sIf, sSet, sSetC, sFor, sAsg, fCon, fOp, f2, fV, fE, fCell, fT, gYes, gAnd, gOr, gNot, fAnd, fOr, fNot, fIf, fNeg, fCh, fCall, fCallK, fCons, fNil, fTup, fLst, fDnew, rNil, rCons, fBlt, fRg, fAny, fLc, fSl, fO, fNoO, gNm, gPut, fM1, fBits, kEq, kNe, enOf, wipeS, unwS, List.getElem?_cons_zero, List.getElem?_cons_succ, List.set_cons_zero, List.set_cons_succ, List.append_nil, List.nil_append, List.cons_append, if_true, if_false, if_pos, Bool.false_eq_true, true_and, and_true, exists_eq_left', exists_eq_left, exists_and_left, D.int.injEq, D.str.injEq, D.lst.injEq, Option.some.injEq, exists_const, ite_true, ite_false, Bool.not_true, Bool.not_false, Bool.false_xor, Bool.true_xor, reduceIte, tyD, x_fVar, x_fv1, x_fv2, x_tl, x_td, x_fz1, x_fz2, x_fz3, x_fzS1, x_fzS2, x_vw_non, x_vw_bl, x_vw_int, x_vw_str, x_vw_lst, x_vw_tup, x_vw_dic, x_vw_raw, x_vw_loc, x_vwL, x_vw_new, x_vw_slo, x_vwS1, x_vwS2, x_isI, x_isB, x_add_i, x_add_s, x_add_l, x_add_t, x_mul_i, x_mul_s, x_mul_l, x_sub, x_mod, x_div, x_pow, x_lt_i, x_gt_i, x_le_i, x_ge_i, x_lt_s, x_gt_s, x_le_s, x_ge_s, x_in_s, x_in_ds, x_in_di, x_in_l, x_in_t, x_ix_l, x_ix_t, x_ix_s, x_ix_ds, x_ix_di, x_is, x_sl_l, x_sl_s, x_sl_t, x_len_l, x_len_t, x_len_s, x_len_d, x_list_l, x_list_t, x_sum, x_max, x_min, x_isi, x_rg1, x_rg2, x_rg3, x_wk_l, x_wk_t, x_wk_s, x_wk_d, x_enum, x_enS, x_zip, x_ziS, x_items, x_itS, x_values, x_vaS, x_rt1, x_rt2, x_rt3, x_rtS1, x_rtS2, x_set1, x_set2, x_set3, x_cell1, x_cell2, x_cell3, x_on1, x_on2, x_onS1, x_onS2, x_onL, x_put_l, x_put_ds, x_put_di, x_app, x_isL, x_mLst, x_tp, x_gs0, x_gs1, x_par2, x_par3, x_p2S, x_p3S, x_keep1, x_keep2, x_keep3, x_wR0, x_wR1, x_uR0, x_uR1, x_vws0, x_vws1, atI_0, atI_1, atI_2, atI_3, ixN_0, ixN_1, ixN_2, ixN_3, cmp_int, cmp_str, cmp_bl, eqD_int, eqD_str, eqD_bl, tT_NoneType, tT_bool, tT_int, tT_str, tT_list, tT_tuple, tT_dict, tN_int, tN_bool, tN_str, tN_list, tN_tuple, tN_dict, iT_NoneType_int, iT_NoneType_bool, iT_NoneType_str, iT_NoneType_list, iT_NoneType_tuple, iT_NoneType_dict, iT_bool_int, iT_bool_bool, iT_bool_str, iT_bool_list, iT_bool_tuple, iT_bool_dict, iT_int_int, iT_int_bool, iT_int_str, iT_int_list, iT_int_tuple, iT_int_dict, iT_str_int, iT_str_bool, iT_str_str, iT_str_list, iT_str_tuple, iT_str_dict, iT_list_int, iT_list_bool, iT_list_str, iT_list_list, iT_list_tuple, iT_list_dict, iT_tuple_int, iT_tuple_bool, iT_tuple_str, iT_tuple_list, iT_tuple_tuple, iT_tuple_dict, iT_dict_int, iT_dict_bool, iT_dict_str, iT_dict_list, iT_dict_tuple, iT_dict_dict]
  refine ⟨st, rfl, by omega, hN1 _ ?_⟩
  refine seq_i fun N2 hN2 => ?_
  simp only [sSeq, sNil, sPass, sBreak, sCont, sDrop, sRet, sRetN, sIf, sSet, sSetC, sFor, sAsg, fCon, fOp, f2, fV, fE, fCell, fT, gYes, gAnd, gOr, gNot, fAnd, fOr, fNot, fIf, fNeg, fCh, fCall, fCallK, fCons, fNil, fTup, fLst, fDnew, rNil, rCons, fBlt, fRg, fAny, fLc, fSl, fO, fNoO, gNm, gPut, fM1, fBits, kEq, kNe, enOf, wipeS, unwS, List.getElem?_cons_zero, List.getElem?_cons_succ, List.set_cons_zero, List.set_cons_succ, List.append_nil, List.nil_append, List.cons_append, if_true, if_false, if_pos, Bool.false_eq_true, true_and, and_true, exists_eq_left', exists_eq_left, exists_and_left, D.int.injEq, D.str.injEq, D.lst.injEq, Option.some.injEq, exists_const, ite_true, ite_false, Bool.not_true, Bool.not_false, Bool.false_xor, Bool.true_xor, reduceIte, tyD, x_fVar, x_fv1, x_fv2, x_tl, x_td, x_fz1, x_fz2, x_fz3, x_fzS1, x_fzS2, x_vw_non, x_vw_bl, x_vw_int, x_vw_str, x_vw_lst, x_vw_tup, x_vw_dic, x_vw_raw, x_vw_loc, x_vwL, x_vw_new, x_vw_slo, x_vwS1, x_vwS2, x_isI, x_isB, x_add_i, x_add_s, x_add_l, x_add_t, x_mul_i, x_mul_s, x_mul_l, x_sub, x_mod, x_div, x_pow, x_lt_i, x_gt_i, x_le_i, x_ge_i, x_lt_s, x_gt_s, x_le_s, x_ge_s, x_in_s, x_in_ds, x_in_di, x_in_l, x_in_t, x_ix_l, x_ix_t, x_ix_s, x_ix_ds, x_ix_di, x_is, x_sl_l, x_sl_s, x_sl_t, x_len_l, x_len_t, x_len_s, x_len_d, x_list_l, x_list_t, x_sum, x_max, x_min, x_isi, x_rg1, x_rg2, x_rg3, x_wk_l, x_wk_t, x_wk_s, x_wk_d, x_enum, x_enS, x_zip, x_ziS, x_items, x_itS, x_values, x_vaS, x_rt1, x_rt2, x_rt3, x_rtS1, x_rtS2, x_set1, x_set2, x_set3, x_cell1, x_cell2, x_cell3, x_on1, x_on2, x_onS1, x_onS2, x_onL, x_put_l, x_put_ds, x_put_di, x_app, x_isL, x_mLst, x_tp, x_gs0, x_gs1, x_par2, x_par3, x_p2S, x_p3S, x_keep1, x_keep2, x_keep3, x_wR0, x_wR1, x_uR0, x_uR1, x_vws0, x_vws1, atI_0, atI_1, atI_2, atI_3, ixN_0, ixN_1, ixN_2, ixN_3, cmp_int, cmp_str, cmp_bl, eqD_int, eqD_str, eqD_bl, tT_NoneType, tT_bool, tT_int, tT_str, tT_list, tT_tuple, tT_dict, tN_int, tN_bool, tN_str, tN_list, tN_tuple, tN_dict, iT_NoneType_int, iT_NoneType_bool, iT_NoneType_str, iT_NoneType_list, iT_NoneType_tuple, iT_NoneType_dict, iT_bool_int, iT_bool_bool, iT_bool_str, iT_bool_list, iT_bool_tuple, iT_bool_dict, iT_int_int, iT_int_bool, iT_int_str, iT_int_list, iT_int_tuple, iT_int_dict, iT_str_int, iT_str_bool, iT_str_str, iT_str_list, iT_str_tuple, iT_str_dict, iT_list_int, iT_list_bool, iT_list_str, iT_list_list, iT_list_tuple, iT_list_dict, iT_tuple_int, iT_tuple_bool, iT_tuple_str, iT_tuple_list, iT_tuple_tuple, iT_tuple_dict, iT_dict_int, iT_dict_bool, iT_dict_str, iT_dict_list, iT_dict_tuple, iT_dict_dict]
  refine ⟨n, rfl, by omega, ?_⟩
  simp only [sSeq, sNil, sPass, sBreak, sCont, sDrop, sRet, sRetN, sIf, sSet, sSetC, sFor, sAsg, fCon, fOp, f2, fV, fE, fCell, fT, gYes, gAnd, gOr, gNot, fAnd, fOr, fNot, fIf, fNeg, fCh, fCall, fCallK, fCons, fNil, fTup, fLst, fDnew, rNil, rCons, fBlt, fRg, fAny, fLc, fSl, fO, fNoO, gNm, gPut, fM1, fBits, kEq, kNe, enOf, wipeS, unwS, List.getElem?_cons_zero, List.getElem?_cons_succ, List.set_cons_zero, List.set_cons_succ, List.append_nil, List.nil_append, List.cons_append, if_true, if_false, if_pos, Bool.false_eq_true, true_and, and_true, exists_eq_left', exists_eq_left, exists_and_left, D.int.injEq, D.str.injEq, D.lst.injEq, Option.some.injEq, exists_const, ite_true, ite_false, Bool.not_true, Bool.not_false, Bool.false_xor, Bool.true_xor, reduceIte, tyD, x_fVar, x_fv1, x_fv2, x_tl, x_td, x_fz1, x_fz2, x_fz3, x_fzS1, x_fzS2, x_vw_non, x_vw_bl, x_vw_int, x_vw_str, x_vw_lst, x_vw_tup, x_vw_dic, x_vw_raw, x_vw_loc, x_vwL, x_vw_new, x_vw_slo, x_vwS1, x_vwS2, x_isI, x_isB, x_add_i, x_add_s, x_add_l, x_add_t, x_mul_i, x_mul_s, x_mul_l, x_sub, x_mod, x_div, x_pow, x_lt_i, x_gt_i, x_le_i, x_ge_i, x_lt_s, x_gt_s, x_le_s, x_ge_s, x_in_s, x_in_ds, x_in_di, x_in_l, x_in_t, x_ix_l, x_ix_t, x_ix_s, x_ix_ds, x_ix_di, x_is, x_sl_l, x_sl_s, x_sl_t, x_len_l, x_len_t, x_len_s, x_len_d, x_list_l, x_list_t, x_sum, x_max, x_min, x_isi, x_rg1, x_rg2, x_rg3, x_wk_l, x_wk_t, x_wk_s, x_wk_d, x_enum, x_enS, x_zip, x_ziS, x_items, x_itS, x_values, x_vaS, x_rt1, x_rt2, x_rt3, x_rtS1, x_rtS2, x_set1, x_set2, x_set3, x_cell1, x_cell2, x_cell3, x_on1, x_on2, x_onS1, x_onS2, x_onL, x_put_l, x_put_ds, x_put_di, x_app, x_isL, x_mLst, x_tp, x_gs0, x_gs1, x_par2, x_par3, x_p2S, x_p3S, x_keep1, x_keep2, x_keep3, x_wR0, x_wR1, x_uR0, x_uR1, x_vws0, x_vws1, atI_0, atI_1, atI_2, atI_3, ixN_0, ixN_1, ixN_2, ixN_3, cmp_int, cmp_str, cmp_bl, eqD_int, eqD_str, eqD_bl, tT_NoneType, tT_bool, tT_int, tT_str, tT_list, tT_tuple, tT_dict, tN_int, tN_bool, tN_str, tN_list, tN_tuple, tN_dict, iT_NoneType_int, iT_NoneType_bool, iT_NoneType_str, iT_NoneType_list, iT_NoneType_tuple, iT_NoneType_dict, iT_bool_int, iT_bool_bool, iT_bool_str, iT_bool_list, iT_bool_tuple, iT_bool_dict, iT_int_int, iT_int_bool, iT_int_str, iT_int_list, iT_int_tuple, iT_int_dict, iT_str_int, iT_str_bool, iT_str_str, iT_str_list, iT_str_tuple, iT_str_dict, iT_list_int, iT_list_bool, iT_list_str, iT_list_list, iT_list_tuple, iT_list_dict, iT_tuple_int, iT_tuple_bool, iT_tuple_str, iT_tuple_list, iT_tuple_tuple, iT_tuple_dict, iT_dict_int, iT_dict_bool, iT_dict_str, iT_dict_list, iT_dict_tuple, iT_dict_dict]
  refine ⟨n, rfl, by omega, ?_⟩
  simp only [sSeq, sNil, sPass, sBreak, sCont, sDrop, sRet, sRetN, sIf, sSet, sSetC, sFor, sAsg, fCon, fOp, f2, fV, fE, fCell, fT, gYes, gAnd, gOr, gNot, fAnd, fOr, fNot, fIf, fNeg, fCh, fCall, fCallK, fCons, fNil, fTup, fLst, fDnew, rNil, rCons, fBlt, fRg, fAny, fLc, fSl, fO, fNoO, gNm, gPut, fM1, fBits, kEq, kNe, enOf, wipeS, unwS, List.getElem?_cons_zero, List.getElem?_cons_succ, List.set_cons_zero, List.set_cons_succ, List.append_nil, List.nil_append, List.cons_append, if_true, if_false, if_pos, Bool.false_eq_true, true_and, and_true, exists_eq_left', exists_eq_left, exists_and_left, D.int.injEq, D.str.injEq, D.lst.injEq, Option.some.injEq, exists_const, ite_true, ite_false, Bool.not_true, Bool.not_false, Bool.false_xor, Bool.true_xor, reduceIte, tyD, x_fVar, x_fv1, x_fv2, x_tl, x_td, x_fz1, x_fz2, x_fz3, x_fzS1, x_fzS2, x_vw_non, x_vw_bl, x_vw_int, x_vw_str, x_vw_lst, x_vw_tup, x_vw_dic, x_vw_raw, x_vw_loc, x_vwL, x_vw_new, x_vw_slo, x_vwS1, x_vwS2, x_isI, x_isB, x_add_i, x_add_s, x_add_l, x_add_t, x_mul_i, x_mul_s, x_mul_l, x_sub, x_mod, x_div, x_pow, x_lt_i, x_gt_i, x_le_i, x_ge_i, x_lt_s, x_gt_s, x_le_s, x_ge_s, x_in_s, x_in_ds, x_in_di, x_in_l, x_in_t, x_ix_l, x_ix_t, x_ix_s, x_ix_ds, x_ix_di, x_is, x_sl_l, x_sl_s, x_sl_t, x_len_l, x_len_t, x_len_s, x_len_d, x_list_l, x_list_t, x_sum, x_max, x_min, x_isi, x_rg1, x_rg2, x_rg3, x_wk_l, x_wk_t, x_wk_s, x_wk_d, x_enum, x_enS, x_zip, x_ziS, x_items, x_itS, x_values, x_vaS, x_rt1, x_rt2, x_rt3, x_rtS1, x_rtS2, x_set1, x_set2, x_set3, x_cell1, x_cell2, x_cell3, x_on1, x_on2, x_onS1, x_onS2, x_onL, x_put_l, x_put_ds, x_put_di, x_app, x_isL, x_mLst, x_tp, x_gs0, x_gs1, x_par2, x_par3, x_p2S, x_p3S, x_keep1, x_keep2, x_keep3, x_wR0, x_wR1, x_uR0, x_uR1, x_vws0, x_vws1, atI_0, atI_1, atI_2, atI_3, ixN_0, ixN_1, ixN_2, ixN_3, cmp_int, cmp_str, cmp_bl, eqD_int, eqD_str, eqD_bl, tT_NoneType, tT_bool, tT_int, tT_str, tT_list, tT_tuple, tT_dict, tN_int, tN_bool, tN_str, tN_list, tN_tuple, tN_dict, iT_NoneType_int, iT_NoneType_bool, iT_NoneType_str, iT_NoneType_list, iT_NoneType_tuple, iT_NoneType_dict, iT_bool_int, iT_bool_bool, iT_bool_str, iT_bool_list, iT_bool_tuple, iT_bool_dict, iT_int_int, iT_int_bool, iT_int_str, iT_int_list, iT_int_tuple, iT_int_dict, iT_str_int, iT_str_bool, iT_str_str, iT_str_list, iT_str_tuple, iT_str_dict, iT_list_int, iT_list_bool, iT_list_str, iT_list_list, iT_list_tuple, iT_list_dict, iT_tuple_int, iT_tuple_bool, iT_tuple_str, iT_tuple_list, iT_tuple_tuple, iT_tuple_dict, iT_dict_int, iT_dict_bool, iT_dict_str, iT_dict_list, iT_dict_tuple, iT_dict_dict]
  refine hN2 _ ?_
  refine seq_i fun N3 hN3 => ?_
  simp only [sSeq, sNil, sPass, sBreak, sCont, sDrop, sRet, sRetN, sIf, sSet, sSetC, sFor, sAsg, fCon, fOp, f2, fV, fE, fCell, fT, gYes, gAnd, gOr, gNot, fAnd, fOr, fNot, fIf, fNeg, fCh, fCall, fCallK, fCons, fNil, fTup, fLst, fDnew, rNil, rCons, fBlt, fRg, fAny, fLc, fSl, fO, fNoO, gNm, gPut, fM1, fBits, kEq, kNe, enOf, wipeS, unwS, List.getElem?_cons_zero, List.getElem?_cons_succ, List.set_cons_zero, List.set_cons_succ, List.append_nil, List.nil_append, List.cons_append, if_true, if_false, if_pos, Bool.false_eq_true, true_and, and_true, exists_eq_left', exists_eq_left, exists_and_left, D.int.injEq, D.str.injEq, D.lst.injEq, Option.some.injEq, exists_const, ite_true, ite_false, Bool.not_true, Bool.not_false, Bool.false_xor, Bool.true_xor, reduceIte, tyD, x_fVar, x_fv1, x_fv2, x_tl, x_td, x_fz1, x_fz2, x_fz3, x_fzS1, x_fzS2, x_vw_non, x_vw_bl, x_vw_int, x_vw_str, x_vw_lst, x_vw_tup, x_vw_dic, x_vw_raw, x_vw_loc, x_vwL, x_vw_new, x_vw_slo, x_vwS1, x_vwS2, x_isI, x_isB, x_add_i, x_add_s, x_add_l, x_add_t, x_mul_i, x_mul_s, x_mul_l, x_sub, x_mod, x_div, x_pow, x_lt_i, x_gt_i, x_le_i, x_ge_i, x_lt_s, x_gt_s, x_le_s, x_ge_s, x_in_s, x_in_ds, x_in_di, x_in_l, x_in_t, x_ix_l, x_ix_t, x_ix_s, x_ix_ds, x_ix_di, x_is, x_sl_l, x_sl_s, x_sl_t, x_len_l, x_len_t, x_len_s, x_len_d, x_list_l, x_list_t, x_sum, x_max, x_min, x_isi, x_rg1, x_rg2, x_rg3, x_wk_l, x_wk_t, x_wk_s, x_wk_d, x_enum, x_enS, x_zip, x_ziS, x_items, x_itS, x_values, x_vaS, x_rt1, x_rt2, x_rt3, x_rtS1, x_rtS2, x_set1, x_set2, x_set3, x_cell1, x_cell2, x_cell3, x_on1, x_on2, x_onS1, x_onS2, x_onL, x_put_l, x_put_ds, x_put_di, x_app, x_isL, x_mLst, x_tp, x_gs0, x_gs1, x_par2, x_par3, x_p2S, x_p3S, x_keep1, x_keep2, x_keep3, x_wR0, x_wR1, x_uR0, x_uR1, x_vws0, x_vws1, atI_0, atI_1, atI_2, atI_3, ixN_0, ixN_1, ixN_2, ixN_3, cmp_int, cmp_str, cmp_bl, eqD_int, eqD_str, eqD_bl, tT_NoneType, tT_bool, tT_int, tT_str, tT_list, tT_tuple, tT_dict, tN_int, tN_bool, tN_str, tN_list, tN_tuple, tN_dict, iT_NoneType_int, iT_NoneType_bool, iT_NoneType_str, iT_NoneType_list, iT_NoneType_tuple, iT_NoneType_dict, iT_bool_int, iT_bool_bool, iT_bool_str, iT_bool_list, iT_bool_tuple, iT_bool_dict, iT_int_int, iT_int_bool, iT_int_str, iT_int_list, iT_int_tuple, iT_int_dict, iT_str_int, iT_str_bool, iT_str_str, iT_str_list, iT_str_tuple, iT_str_dict, iT_list_int, iT_list_bool, iT_list_str, iT_list_list, iT_list_tuple, iT_list_dict, iT_tuple_int, iT_tuple_bool, iT_tuple_str, iT_tuple_list, iT_tuple_tuple, iT_tuple_dict, iT_dict_int, iT_dict_bool, iT_dict_str, iT_dict_list, iT_dict_tuple, iT_dict_dict]
  refine comp_map (fun d => match d with | .lst xs => (intsD xs).map fun ns => .int ns.sum | _ => none) (by unfold rgL; rw [szl]; simp; omega) ?_ ?_
  · intro d hd P hP
    obtain ⟨i, _, rfl⟩ := List.mem_map.mp hd
    simp only [sSeq, sNil, sPass, sBreak, sCont, sDrop, sRet, sRetN, sIf, sSet, sSetC, sFor, sAsg, fCon, fOp, f2, fV, fE, fCell, fT, gYes, gAnd, gOr, gNot, fAnd, fOr, fNot, fIf, fNeg, fCh, fCall, fCallK, fCons, fNil, fTup, fLst, fDnew, rNil, rCons, fBlt, fRg, fAny, fLc, fSl, fO, fNoO, gNm, gPut, fM1, fBits, kEq, kNe, enOf, wipeS, unwS, List.getElem?_cons_zero, List.getElem?_cons_succ, List.set_cons_zero, List.set_cons_succ, List.append_nil, List.nil_append, List.cons_append, if_true, if_false, if_pos, Bool.false_eq_true, true_and, and_true, exists_eq_left', exists_eq_left, exists_and_left, D.int.injEq, D.str.injEq, D.lst.injEq, Option.some.injEq, exists_const, ite_true, ite_false, Bool.not_true, Bool.not_false, Bool.false_xor, Bool.true_xor, reduceIte, tyD, x_fVar, x_fv1, x_fv2, x_tl, x_td, x_fz1, x_fz2, x_fz3, x_fzS1, x_fzS2, x_vw_non, x_vw_bl, x_vw_int, x_vw_str, x_vw_lst, x_vw_tup, x_vw_dic, x_vw_raw, x_vw_loc, x_vwL, x_vw_new, x_vw_slo, x_vwS1, x_vwS2, x_isI, x_isB, x_add_i, x_add_s, x_add_l, x_add_t, x_mul_i, x_mul_s, x_mul_l, x_sub, x_mod, x_div, x_pow, x_lt_i, x_gt_i, x_le_i, x_ge_i, x_lt_s, x_gt_s, x_le_s, x_ge_s, x_in_s, x_in_ds, x_in_di, x_in_l, x_in_t, x_ix_l, x_ix_t, x_ix_s, x_ix_ds, x_ix_di, x_is, x_sl_l, x_sl_s, x_sl_t, x_len_l, x_len_t, x_len_s, x_len_d, x_list_l, x_list_t, x_sum, x_max, x_min, x_isi, x_rg1, x_rg2, x_rg3, x_wk_l, x_wk_t, x_wk_s, x_wk_d, x_enum, x_enS, x_zip, x_ziS, x_items, x_itS, x_values, x_vaS, x_rt1, x_rt2, x_rt3, x_rtS1, x_rtS2, x_set1, x_set2, x_set3, x_cell1, x_cell2, x_cell3, x_on1, x_on2, x_onS1, x_onS2, x_onL, x_put_l, x_put_ds, x_put_di, x_app, x_isL, x_mLst, x_tp, x_gs0, x_gs1, x_par2, x_par3, x_p2S, x_p3S, x_keep1, x_keep2, x_keep3, x_wR0, x_wR1, x_uR0, x_uR1, x_vws0, x_vws1, atI_0, atI_1, atI_2, atI_3, ixN_0, ixN_1, ixN_2, ixN_3, cmp_int, cmp_str, cmp_bl, eqD_int, eqD_str, eqD_bl, tT_NoneType, tT_bool, tT_int, tT_str, tT_list, tT_tuple, tT_dict, tN_int, tN_bool, tN_str, tN_list, tN_tuple, tN_dict, iT_NoneType_int, iT_NoneType_bool, iT_NoneType_str, iT_NoneType_list, iT_NoneType_tuple, iT_NoneType_dict, iT_bool_int, iT_bool_bool, iT_bool_str, iT_bool_list, iT_bool_tuple, iT_bool_dict, iT_int_int, iT_int_bool, iT_int_str, iT_int_list, iT_int_tuple, iT_int_dict, iT_str_int, iT_str_bool, iT_str_str, iT_str_list, iT_str_tuple, iT_str_dict, iT_list_int, iT_list_bool, iT_list_str, iT_list_list, iT_list_tuple, iT_list_dict, iT_tuple_int, iT_tuple_bool, iT_tuple_str, iT_tuple_list, iT_tuple_tuple, iT_tuple_dict, iT_dict_int, iT_dict_bool, iT_dict_str, iT_dict_list, iT_dict_tuple, iT_dict_dict]
    unfold dI
    simp only [sSeq, sNil, sPass, sBreak, sCont, sDrop, sRet, sRetN, sIf, sSet, sSetC, sFor, sAsg, fCon, fOp, f2, fV, fE, fCell, fT, gYes, gAnd, gOr, gNot, fAnd, fOr, fNot, fIf, fNeg, fCh, fCall, fCallK, fCons, fNil, fTup, fLst, fDnew, rNil, rCons, fBlt, fRg, fAny, fLc, fSl, fO, fNoO, gNm, gPut, fM1, fBits, kEq, kNe, enOf, wipeS, unwS, List.getElem?_cons_zero, List.getElem?_cons_succ, List.set_cons_zero, List.set_cons_succ, List.append_nil, List.nil_append, List.cons_append, if_true, if_false, if_pos, Bool.false_eq_true, true_and, and_true, exists_eq_left', exists_eq_left, exists_and_left, D.int.injEq, D.str.injEq, D.lst.injEq, Option.some.injEq, exists_const, ite_true, ite_false, Bool.not_true, Bool.not_false, Bool.false_xor, Bool.true_xor, reduceIte, tyD, x_fVar, x_fv1, x_fv2, x_tl, x_td, x_fz1, x_fz2, x_fz3, x_fzS1, x_fzS2, x_vw_non, x_vw_bl, x_vw_int, x_vw_str, x_vw_lst, x_vw_tup, x_vw_dic, x_vw_raw, x_vw_loc, x_vwL, x_vw_new, x_vw_slo, x_vwS1, x_vwS2, x_isI, x_isB, x_add_i, x_add_s, x_add_l, x_add_t, x_mul_i, x_mul_s, x_mul_l, x_sub, x_mod, x_div, x_pow, x_lt_i, x_gt_i, x_le_i, x_ge_i, x_lt_s, x_gt_s, x_le_s, x_ge_s, x_in_s, x_in_ds, x_in_di, x_in_l, x_in_t, x_ix_l, x_ix_t, x_ix_s, x_ix_ds, x_ix_di, x_is, x_sl_l, x_sl_s, x_sl_t, x_len_l, x_len_t, x_len_s, x_len_d, x_list_l, x_list_t, x_sum, x_max, x_min, x_isi, x_rg1, x_rg2, x_rg3, x_wk_l, x_wk_t, x_wk_s, x_wk_d, x_enum, x_enS, x_zip, x_ziS, x_items, x_itS, x_values, x_vaS, x_rt1, x_rt2, x_rt3, x_rtS1, x_rtS2, x_set1, x_set2, x_set3, x_cell1, x_cell2, x_cell3, x_on1, x_on2, x_onS1, x_onS2, x_onL, x_put_l, x_put_ds, x_put_di, x_app, x_isL, x_mLst, x_tp, x_gs0, x_gs1, x_par2, x_par3, x_p2S, x_p3S, x_keep1, x_keep2, x_keep3, x_wR0, x_wR1, x_uR0, x_uR1, x_vws0, x_vws1, atI_0, atI_1, atI_2, atI_3, ixN_0, ixN_1, ixN_2, ixN_3, cmp_int, cmp_str, cmp_bl, eqD_int, eqD_str, eqD_bl, tT_NoneType, tT_bool, tT_int, tT_str, tT_list, tT_tuple, tT_dict, tN_int, tN_bool, tN_str, tN_list, tN_tuple, tN_dict, iT_NoneType_int, iT_NoneType_bool, iT_NoneType_str, iT_NoneType_list, iT_NoneType_tuple, iT_NoneType_dict, iT_bool_int, iT_bool_bool, iT_bool_str, iT_bool_list, iT_bool_tuple, iT_bool_dict, iT_int_int, iT_int_bool, iT_int_str, iT_int_list, iT_int_tuple, iT_int_dict, iT_str_int, iT_str_bool, iT_str_str, iT_str_list, iT_str_tuple, iT_str_dict, iT_list_int, iT_list_bool, iT_list_str, iT_list_list, iT_list_tuple, iT_list_dict, iT_tuple_int, iT_tuple_bool, iT_tuple_str, iT_tuple_list, iT_tuple_tuple, iT_tuple_dict, iT_dict_int, iT_dict_bool, iT_dict_str, iT_dict_list, iT_dict_tuple, iT_dict_dict, Vl.ints_map]
    unfold dI at hP
    simp only [Vl.ints_map] at hP
    exact hP
  · have ew : (rgL n (max 2 (n + 1))).filterMap (fun d => match d with | .lst xs => (intsD xs).map fun ns => .int ns.sum | _ => none) = (waysL n).map D.int := by
      unfold rgL waysL
      rw [List.filterMap_map, List.map_map]
      rw [show ((fun d => match d with | .lst xs => (intsD xs).map fun ns => D.int ns.sum | _ => none) ∘ fun i => dI (rgR n i)) = some ∘ (D.int ∘ fun i => (rgR n i).sum) from funext fun i => by
        show (intsD ((rgR n i).map D.int)).map (fun ns => D.int ns.sum) = some _
        rw [Vl.ints_map]
        rfl, List.filterMap_eq_map]
    rw [ew]
    simp only [sSeq, sNil, sPass, sBreak, sCont, sDrop, sRet, sRetN, sIf, sSet, sSetC, sFor, sAsg, fCon, fOp, f2, fV, fE, fCell, fT, gYes, gAnd, gOr, gNot, fAnd, fOr, fNot, fIf, fNeg, fCh, fCall, fCallK, fCons, fNil, fTup, fLst, fDnew, rNil, rCons, fBlt, fRg, fAny, fLc, fSl, fO, fNoO, gNm, gPut, fM1, fBits, kEq, kNe, enOf, wipeS, unwS, List.getElem?_cons_zero, List.getElem?_cons_succ, List.set_cons_zero, List.set_cons_succ, List.append_nil, List.nil_append, List.cons_append, if_true, if_false, if_pos, Bool.false_eq_true, true_and, and_true, exists_eq_left', exists_eq_left, exists_and_left, D.int.injEq, D.str.injEq, D.lst.injEq, Option.some.injEq, exists_const, ite_true, ite_false, Bool.not_true, Bool.not_false, Bool.false_xor, Bool.true_xor, reduceIte, tyD, x_fVar, x_fv1, x_fv2, x_tl, x_td, x_fz1, x_fz2, x_fz3, x_fzS1, x_fzS2, x_vw_non, x_vw_bl, x_vw_int, x_vw_str, x_vw_lst, x_vw_tup, x_vw_dic, x_vw_raw, x_vw_loc, x_vwL, x_vw_new, x_vw_slo, x_vwS1, x_vwS2, x_isI, x_isB, x_add_i, x_add_s, x_add_l, x_add_t, x_mul_i, x_mul_s, x_mul_l, x_sub, x_mod, x_div, x_pow, x_lt_i, x_gt_i, x_le_i, x_ge_i, x_lt_s, x_gt_s, x_le_s, x_ge_s, x_in_s, x_in_ds, x_in_di, x_in_l, x_in_t, x_ix_l, x_ix_t, x_ix_s, x_ix_ds, x_ix_di, x_is, x_sl_l, x_sl_s, x_sl_t, x_len_l, x_len_t, x_len_s, x_len_d, x_list_l, x_list_t, x_sum, x_max, x_min, x_isi, x_rg1, x_rg2, x_rg3, x_wk_l, x_wk_t, x_wk_s, x_wk_d, x_enum, x_enS, x_zip, x_ziS, x_items, x_itS, x_values, x_vaS, x_rt1, x_rt2, x_rt3, x_rtS1, x_rtS2, x_set1, x_set2, x_set3, x_cell1, x_cell2, x_cell3, x_on1, x_on2, x_onS1, x_onS2, x_onL, x_put_l, x_put_ds, x_put_di, x_app, x_isL, x_mLst, x_tp, x_gs0, x_gs1, x_par2, x_par3, x_p2S, x_p3S, x_keep1, x_keep2, x_keep3, x_wR0, x_wR1, x_uR0, x_uR1, x_vws0, x_vws1, atI_0, atI_1, atI_2, atI_3, ixN_0, ixN_1, ixN_2, ixN_3, cmp_int, cmp_str, cmp_bl, eqD_int, eqD_str, eqD_bl, tT_NoneType, tT_bool, tT_int, tT_str, tT_list, tT_tuple, tT_dict, tN_int, tN_bool, tN_str, tN_list, tN_tuple, tN_dict, iT_NoneType_int, iT_NoneType_bool, iT_NoneType_str, iT_NoneType_list, iT_NoneType_tuple, iT_NoneType_dict, iT_bool_int, iT_bool_bool, iT_bool_str, iT_bool_list, iT_bool_tuple, iT_bool_dict, iT_int_int, iT_int_bool, iT_int_str, iT_int_list, iT_int_tuple, iT_int_dict, iT_str_int, iT_str_bool, iT_str_str, iT_str_list, iT_str_tuple, iT_str_dict, iT_list_int, iT_list_bool, iT_list_str, iT_list_list, iT_list_tuple, iT_list_dict, iT_tuple_int, iT_tuple_bool, iT_tuple_str, iT_tuple_list, iT_tuple_tuple, iT_tuple_dict, iT_dict_int, iT_dict_bool, iT_dict_str, iT_dict_list, iT_dict_tuple, iT_dict_dict]
    refine ⟨n, rfl, hn, ?_⟩
    simp only [sSeq, sNil, sPass, sBreak, sCont, sDrop, sRet, sRetN, sIf, sSet, sSetC, sFor, sAsg, fCon, fOp, f2, fV, fE, fCell, fT, gYes, gAnd, gOr, gNot, fAnd, fOr, fNot, fIf, fNeg, fCh, fCall, fCallK, fCons, fNil, fTup, fLst, fDnew, rNil, rCons, fBlt, fRg, fAny, fLc, fSl, fO, fNoO, gNm, gPut, fM1, fBits, kEq, kNe, enOf, wipeS, unwS, List.getElem?_cons_zero, List.getElem?_cons_succ, List.set_cons_zero, List.set_cons_succ, List.append_nil, List.nil_append, List.cons_append, if_true, if_false, if_pos, Bool.false_eq_true, true_and, and_true, exists_eq_left', exists_eq_left, exists_and_left, D.int.injEq, D.str.injEq, D.lst.injEq, Option.some.injEq, exists_const, ite_true, ite_false, Bool.not_true, Bool.not_false, Bool.false_xor, Bool.true_xor, reduceIte, tyD, x_fVar, x_fv1, x_fv2, x_tl, x_td, x_fz1, x_fz2, x_fz3, x_fzS1, x_fzS2, x_vw_non, x_vw_bl, x_vw_int, x_vw_str, x_vw_lst, x_vw_tup, x_vw_dic, x_vw_raw, x_vw_loc, x_vwL, x_vw_new, x_vw_slo, x_vwS1, x_vwS2, x_isI, x_isB, x_add_i, x_add_s, x_add_l, x_add_t, x_mul_i, x_mul_s, x_mul_l, x_sub, x_mod, x_div, x_pow, x_lt_i, x_gt_i, x_le_i, x_ge_i, x_lt_s, x_gt_s, x_le_s, x_ge_s, x_in_s, x_in_ds, x_in_di, x_in_l, x_in_t, x_ix_l, x_ix_t, x_ix_s, x_ix_ds, x_ix_di, x_is, x_sl_l, x_sl_s, x_sl_t, x_len_l, x_len_t, x_len_s, x_len_d, x_list_l, x_list_t, x_sum, x_max, x_min, x_isi, x_rg1, x_rg2, x_rg3, x_wk_l, x_wk_t, x_wk_s, x_wk_d, x_enum, x_enS, x_zip, x_ziS, x_items, x_itS, x_values, x_vaS, x_rt1, x_rt2, x_rt3, x_rtS1, x_rtS2, x_set1, x_set2, x_set3, x_cell1, x_cell2, x_cell3, x_on1, x_on2, x_onS1, x_onS2, x_onL, x_put_l, x_put_ds, x_put_di, x_app, x_isL, x_mLst, x_tp, x_gs0, x_gs1, x_par2, x_par3, x_p2S, x_p3S, x_keep1, x_keep2, x_keep3, x_wR0, x_wR1, x_uR0, x_uR1, x_vws0, x_vws1, atI_0, atI_1, atI_2, atI_3, ixN_0, ixN_1, ixN_2, ixN_3, cmp_int, cmp_str, cmp_bl, eqD_int, eqD_str, eqD_bl, tT_NoneType, tT_bool, tT_int, tT_str, tT_list, tT_tuple, tT_dict, tN_int, tN_bool, tN_str, tN_list, tN_tuple, tN_dict, iT_NoneType_int, iT_NoneType_bool, iT_NoneType_str, iT_NoneType_list, iT_NoneType_tuple, iT_NoneType_dict, iT_bool_int, iT_bool_bool, iT_bool_str, iT_bool_list, iT_bool_tuple, iT_bool_dict, iT_int_int, iT_int_bool, iT_int_str, iT_int_list, iT_int_tuple, iT_int_dict, iT_str_int, iT_str_bool, iT_str_str, iT_str_list, iT_str_tuple, iT_str_dict, iT_list_int, iT_list_bool, iT_list_str, iT_list_list, iT_list_tuple, iT_list_dict, iT_tuple_int, iT_tuple_bool, iT_tuple_str, iT_tuple_list, iT_tuple_tuple, iT_tuple_dict, iT_dict_int, iT_dict_bool, iT_dict_str, iT_dict_list, iT_dict_tuple, iT_dict_dict]
    refine hN3 _ ?_
    refine seq_i fun N4 hN4 => ?_
    simp only [sSeq, sNil, sPass, sBreak, sCont, sDrop, sRet, sRetN, sIf, sSet, sSetC, sFor, sAsg, fCon, fOp, f2, fV, fE, fCell, fT, gYes, gAnd, gOr, gNot, fAnd, fOr, fNot, fIf, fNeg, fCh, fCall, fCallK, fCons, fNil, fTup, fLst, fDnew, rNil, rCons, fBlt, fRg, fAny, fLc, fSl, fO, fNoO, gNm, gPut, fM1, fBits, kEq, kNe, enOf, wipeS, unwS, List.getElem?_cons_zero, List.getElem?_cons_succ, List.set_cons_zero, List.set_cons_succ, List.append_nil, List.nil_append, List.cons_append, if_true, if_false, if_pos, Bool.false_eq_true, true_and, and_true, exists_eq_left', exists_eq_left, exists_and_left, D.int.injEq, D.str.injEq, D.lst.injEq, Option.some.injEq, exists_const, ite_true, ite_false, Bool.not_true, Bool.not_false, Bool.false_xor, Bool.true_xor, reduceIte, tyD, x_fVar, x_fv1, x_fv2, x_tl, x_td, x_fz1, x_fz2, x_fz3, x_fzS1, x_fzS2, x_vw_non, x_vw_bl, x_vw_int, x_vw_str, x_vw_lst, x_vw_tup, x_vw_dic, x_vw_raw, x_vw_loc, x_vwL, x_vw_new, x_vw_slo, x_vwS1, x_vwS2, x_isI, x_isB, x_add_i, x_add_s, x_add_l, x_add_t, x_mul_i, x_mul_s, x_mul_l, x_sub, x_mod, x_div, x_pow, x_lt_i, x_gt_i, x_le_i, x_ge_i, x_lt_s, x_gt_s, x_le_s, x_ge_s, x_in_s, x_in_ds, x_in_di, x_in_l, x_in_t, x_ix_l, x_ix_t, x_ix_s, x_ix_ds, x_ix_di, x_is, x_sl_l, x_sl_s, x_sl_t, x_len_l, x_len_t, x_len_s, x_len_d, x_list_l, x_list_t, x_sum, x_max, x_min, x_isi, x_rg1, x_rg2, x_rg3, x_wk_l, x_wk_t, x_wk_s, x_wk_d, x_enum, x_enS, x_zip, x_ziS, x_items, x_itS, x_values, x_vaS, x_rt1, x_rt2, x_rt3, x_rtS1, x_rtS2, x_set1, x_set2, x_set3, x_cell1, x_cell2, x_cell3, x_on1, x_on2, x_onS1, x_onS2, x_onL, x_put_l, x_put_ds, x_put_di, x_app, x_isL, x_mLst, x_tp, x_gs0, x_gs1, x_par2, x_par3, x_p2S, x_p3S, x_keep1, x_keep2, x_keep3, x_wR0, x_wR1, x_uR0, x_uR1, x_vws0, x_vws1, atI_0, atI_1, atI_2, atI_3, ixN_0, ixN_1, ixN_2, ixN_3, cmp_int, cmp_str, cmp_bl, eqD_int, eqD_str, eqD_bl, tT_NoneType, tT_bool, tT_int, tT_str, tT_list, tT_tuple, tT_dict, tN_int, tN_bool, tN_str, tN_list, tN_tuple, tN_dict, iT_NoneType_int, iT_NoneType_bool, iT_NoneType_str, iT_NoneType_list, iT_NoneType_tuple, iT_NoneType_dict, iT_bool_int, iT_bool_bool, iT_bool_str, iT_bool_list, iT_bool_tuple, iT_bool_dict, iT_int_int, iT_int_bool, iT_int_str, iT_int_list, iT_int_tuple, iT_int_dict, iT_str_int, iT_str_bool, iT_str_str, iT_str_list, iT_str_tuple, iT_str_dict, iT_list_int, iT_list_bool, iT_list_str, iT_list_list, iT_list_tuple, iT_list_dict, iT_tuple_int, iT_tuple_bool, iT_tuple_str, iT_tuple_list, iT_tuple_tuple, iT_tuple_dict, iT_dict_int, iT_dict_bool, iT_dict_str, iT_dict_list, iT_dict_tuple, iT_dict_dict]
    refine ⟨small62_of (by omega) (by omega), ?_⟩
    have e1 : ((n : Int) + 1).toNat = n + 1 := by omega
    rw [e1]
    refine loop_inv (fun i s => ∃ x y z, s = ⟨[.val (.int n), .val (.int st), x, .val (.lst (chL n)), .val (.lst (rgL n (max 2 (n + 1)))), .val (.lst ((caL n (n + 1)).map dI)), .val (.int (((List.range i).map fun ringed => ((List.range (n - ringed + 1)).map (hmT n st ringed)).sum).sum)), y, z, .no], S⟩) ⟨.no, .no, .no, rfl⟩ ?_ ?_
    · rintro i d s hd ⟨x, y, z, rfl⟩ P hP
      obtain ⟨hi, rfl⟩ := upI_at hd
      rw [Int.zero_add]
      generalize hT : (((List.range i).map fun ringed => ((List.range (n - ringed + 1)).map (hmT n st ringed)).sum).sum) = T
      simp only [sSeq, sNil, sPass, sBreak, sCont, sDrop, sRet, sRetN, sIf, sSet, sSetC, sFor, sAsg, fCon, fOp, f2, fV, fE, fCell, fT, gYes, gAnd, gOr, gNot, fAnd, fOr, fNot, fIf, fNeg, fCh, fCall, fCallK, fCons, fNil, fTup, fLst, fDnew, rNil, rCons, fBlt, fRg, fAny, fLc, fSl, fO, fNoO, gNm, gPut, fM1, fBits, kEq, kNe, enOf, wipeS, unwS, List.getElem?_cons_zero, List.getElem?_cons_succ, List.set_cons_zero, List.set_cons_succ, List.append_nil, List.nil_append, List.cons_append, if_true, if_false, if_pos, Bool.false_eq_true, true_and, and_true, exists_eq_left', exists_eq_left, exists_and_left, D.int.injEq, D.str.injEq, D.lst.injEq, Option.some.injEq, exists_const, ite_true, ite_false, Bool.not_true, Bool.not_false, Bool.false_xor, Bool.true_xor, reduceIte, tyD, x_fVar, x_fv1, x_fv2, x_tl, x_td, x_fz1, x_fz2, x_fz3, x_fzS1, x_fzS2, x_vw_non, x_vw_bl, x_vw_int, x_vw_str, x_vw_lst, x_vw_tup, x_vw_dic, x_vw_raw, x_vw_loc, x_vwL, x_vw_new, x_vw_slo, x_vwS1, x_vwS2, x_isI, x_isB, x_add_i, x_add_s, x_add_l, x_add_t, x_mul_i, x_mul_s, x_mul_l, x_sub, x_mod, x_div, x_pow, x_lt_i, x_gt_i, x_le_i, x_ge_i, x_lt_s, x_gt_s, x_le_s, x_ge_s, x_in_s, x_in_ds, x_in_di, x_in_l, x_in_t, x_ix_l, x_ix_t, x_ix_s, x_ix_ds, x_ix_di, x_is, x_sl_l, x_sl_s, x_sl_t, x_len_l, x_len_t, x_len_s, x_len_d, x_list_l, x_list_t, x_sum, x_max, x_min, x_isi, x_rg1, x_rg2, x_rg3, x_wk_l, x_wk_t, x_wk_s, x_wk_d, x_enum, x_enS, x_zip, x_ziS, x_items, x_itS, x_values, x_vaS, x_rt1, x_rt2, x_rt3, x_rtS1, x_rtS2, x_set1, x_set2, x_set3, x_cell1, x_cell2, x_cell3, x_on1, x_on2, x_onS1, x_onS2, x_onL, x_put_l, x_put_ds, x_put_di, x_app, x_isL, x_mLst, x_tp, x_gs0, x_gs1, x_par2, x_par3, x_p2S, x_p3S, x_keep1, x_keep2, x_keep3, x_wR0, x_wR1, x_uR0, x_uR1, x_vws0, x_vws1, atI_0, atI_1, atI_2, atI_3, ixN_0, ixN_1, ixN_2, ixN_3, cmp_int, cmp_str, cmp_bl, eqD_int, eqD_str, eqD_bl, tT_NoneType, tT_bool, tT_int, tT_str, tT_list, tT_tuple, tT_dict, tN_int, tN_bool, tN_str, tN_list, tN_tuple, tN_dict, iT_NoneType_int, iT_NoneType_bool, iT_NoneType_str, iT_NoneType_list, iT_NoneType_tuple, iT_NoneType_dict, iT_bool_int, iT_bool_bool, iT_bool_str, iT_bool_list, iT_bool_tuple, iT_bool_dict, iT_int_int, iT_int_bool, iT_int_str, iT_int_list, iT_int_tuple, iT_int_dict, iT_str_int, iT_str_bool, iT_str_str, iT_str_list, iT_str_tuple, iT_str_dict, iT_list_int, iT_list_bool, iT_list_str, iT_list_list, iT_list_tuple, iT_list_dict, iT_tuple_int, iT_tuple_bool, iT_tuple_str, iT_tuple_list, iT_tuple_tuple, iT_tuple_dict, iT_dict_int, iT_dict_bool, iT_dict_str, iT_dict_list, iT_dict_tuple, iT_dict_dict]
      refine ⟨small62_of (by omega) (by omega), ?_⟩
      have e2 : ((n : Int) - (i : Int) + 1).toNat = n - i + 1 := by omega
      rw [e2]
      refine loop_inv (fun k s => ∃ y z, s = ⟨[.val (.int n), .val (.int st), .val (.int i), .val (.lst (chL n)), .val (.lst (rgL n (max 2 (n + 1)))), .val (.lst ((caL n (n + 1)).map dI)), .val (.int (T + ((List.range k).map (hmT n st i)).sum)), y, z, .no], S⟩) ⟨y, z, by simp⟩ ?_ ?_
      · rintro k d s hd ⟨y, z, rfl⟩ P hP
        obtain ⟨hk, rfl⟩ := upI_at hd
        rw [Int.zero_add]
        refine seq_i fun N5 hN5 => ?_
        simp only [sSeq, sNil, sPass, sBreak, sCont, sDrop, sRet, sRetN, sIf, sSet, sSetC, sFor, sAsg, fCon, fOp, f2, fV, fE, fCell, fT, gYes, gAnd, gOr, gNot, fAnd, fOr, fNot, fIf, fNeg, fCh, fCall, fCallK, fCons, fNil, fTup, fLst, fDnew, rNil, rCons, fBlt, fRg, fAny, fLc, fSl, fO, fNoO, gNm, gPut, fM1, fBits, kEq, kNe, enOf, wipeS, unwS, List.getElem?_cons_zero, List.getElem?_cons_succ, List.set_cons_zero, List.set_cons_succ, List.append_nil, List.nil_append, List.cons_append, if_true, if_false, if_pos, Bool.false_eq_true, true_and, and_true, exists_eq_left', exists_eq_left, exists_and_left, D.int.injEq, D.str.injEq, D.lst.injEq, Option.some.injEq, exists_const, ite_true, ite_false, Bool.not_true, Bool.not_false, Bool.false_xor, Bool.true_xor, reduceIte, tyD, x_fVar, x_fv1, x_fv2, x_tl, x_td, x_fz1, x_fz2, x_fz3, x_fzS1, x_fzS2, x_vw_non, x_vw_bl, x_vw_int, x_vw_str, x_vw_lst, x_vw_tup, x_vw_dic, x_vw_raw, x_vw_loc, x_vwL, x_vw_new, x_vw_slo, x_vwS1, x_vwS2, x_isI, x_isB, x_add_i, x_add_s, x_add_l, x_add_t, x_mul_i, x_mul_s, x_mul_l, x_sub, x_mod, x_div, x_pow, x_lt_i, x_gt_i, x_le_i, x_ge_i, x_lt_s, x_gt_s, x_le_s, x_ge_s, x_in_s, x_in_ds, x_in_di, x_in_l, x_in_t, x_ix_l, x_ix_t, x_ix_s, x_ix_ds, x_ix_di, x_is, x_sl_l, x_sl_s, x_sl_t, x_len_l, x_len_t, x_len_s, x_len_d, x_list_l, x_list_t, x_sum, x_max, x_min, x_isi, x_rg1, x_rg2, x_rg3, x_wk_l, x_wk_t, x_wk_s, x_wk_d, x_enum, x_enS, x_zip, x_ziS, x_items, x_itS, x_values, x_vaS, x_rt1, x_rt2, x_rt3, x_rtS1, x_rtS2, x_set1, x_set2, x_set3, x_cell1, x_cell2, x_cell3, x_on1, x_on2, x_onS1, x_onS2, x_onL, x_put_l, x_put_ds, x_put_di, x_app, x_isL, x_mLst, x_tp, x_gs0, x_gs1, x_par2, x_par3, x_p2S, x_p3S, x_keep1, x_keep2, x_keep3, x_wR0, x_wR1, x_uR0, x_uR1, x_vws0, x_vws1, atI_0, atI_1, atI_2, atI_3, ixN_0, ixN_1, ixN_2, ixN_3, cmp_int, cmp_str, cmp_bl, eqD_int, eqD_str, eqD_bl, tT_NoneType, tT_bool, tT_int, tT_str, tT_list, tT_tuple, tT_dict, tN_int, tN_bool, tN_str, tN_list, tN_tuple, tN_dict, iT_NoneType_int, iT_NoneType_bool, iT_NoneType_str, iT_NoneType_list, iT_NoneType_tuple, iT_NoneType_dict, iT_bool_int, iT_bool_bool, iT_bool_str, iT_bool_list, iT_bool_tuple, iT_bool_dict, iT_int_int, iT_int_bool, iT_int_str, iT_int_list, iT_int_tuple, iT_int_dict, iT_str_int, iT_str_bool, iT_str_str, iT_str_list, iT_str_tuple, iT_str_dict, iT_list_int, iT_list_bool, iT_list_str, iT_list_list, iT_list_tuple, iT_list_dict, iT_tuple_int, iT_tuple_bool, iT_tuple_str, iT_tuple_list, iT_tuple_tuple, iT_tuple_dict, iT_dict_int, iT_dict_bool, iT_dict_str, iT_dict_list, iT_dict_tuple, iT_dict_dict]
        refine hN5 _ ?_
        simp only [sSeq, sNil, sPass, sBreak, sCont, sDrop, sRet, sRetN, sIf, sSet, sSetC, sFor, sAsg, fCon, fOp, f2, fV, fE, fCell, fT, gYes, gAnd, gOr, gNot, fAnd, fOr, fNot, fIf, fNeg, fCh, fCall, fCallK, fCons, fNil, fTup, fLst, fDnew, rNil, rCons, fBlt, fRg, fAny, fLc, fSl, fO, fNoO, gNm, gPut, fM1, fBits, kEq, kNe, enOf, wipeS, unwS, List.getElem?_cons_zero, List.getElem?_cons_succ, List.set_cons_zero, List.set_cons_succ, List.append_nil, List.nil_append, List.cons_append, if_true, if_false, if_pos, Bool.false_eq_true, true_and, and_true, exists_eq_left', exists_eq_left, exists_and_left, D.int.injEq, D.str.injEq, D.lst.injEq, Option.some.injEq, exists_const, ite_true, ite_false, Bool.not_true, Bool.not_false, Bool.false_xor, Bool.true_xor, reduceIte, tyD, x_fVar, x_fv1, x_fv2, x_tl, x_td, x_fz1, x_fz2, x_fz3, x_fzS1, x_fzS2, x_vw_non, x_vw_bl, x_vw_int, x_vw_str, x_vw_lst, x_vw_tup, x_vw_dic, x_vw_raw, x_vw_loc, x_vwL, x_vw_new, x_vw_slo, x_vwS1, x_vwS2, x_isI, x_isB, x_add_i, x_add_s, x_add_l, x_add_t, x_mul_i, x_mul_s, x_mul_l, x_sub, x_mod, x_div, x_pow, x_lt_i, x_gt_i, x_le_i, x_ge_i, x_lt_s, x_gt_s, x_le_s, x_ge_s, x_in_s, x_in_ds, x_in_di, x_in_l, x_in_t, x_ix_l, x_ix_t, x_ix_s, x_ix_ds, x_ix_di, x_is, x_sl_l, x_sl_s, x_sl_t, x_len_l, x_len_t, x_len_s, x_len_d, x_list_l, x_list_t, x_sum, x_max, x_min, x_isi, x_rg1, x_rg2, x_rg3, x_wk_l, x_wk_t, x_wk_s, x_wk_d, x_enum, x_enS, x_zip, x_ziS, x_items, x_itS, x_values, x_vaS, x_rt1, x_rt2, x_rt3, x_rtS1, x_rtS2, x_set1, x_set2, x_set3, x_cell1, x_cell2, x_cell3, x_on1, x_on2, x_onS1, x_onS2, x_onL, x_put_l, x_put_ds, x_put_di, x_app, x_isL, x_mLst, x_tp, x_gs0, x_gs1, x_par2, x_par3, x_p2S, x_p3S, x_keep1, x_keep2, x_keep3, x_wR0, x_wR1, x_uR0, x_uR1, x_vws0, x_vws1, atI_0, atI_1, atI_2, atI_3, ixN_0, ixN_1, ixN_2, ixN_3, cmp_int, cmp_str, cmp_bl, eqD_int, eqD_str, eqD_bl, tT_NoneType, tT_bool, tT_int, tT_str, tT_list, tT_tuple, tT_dict, tN_int, tN_bool, tN_str, tN_list, tN_tuple, tN_dict, iT_NoneType_int, iT_NoneType_bool, iT_NoneType_str, iT_NoneType_list, iT_NoneType_tuple, iT_NoneType_dict, iT_bool_int, iT_bool_bool, iT_bool_str, iT_bool_list, iT_bool_tuple, iT_bool_dict, iT_int_int, iT_int_bool, iT_int_str, iT_int_list, iT_int_tuple, iT_int_dict, iT_str_int, iT_str_bool, iT_str_str, iT_str_list, iT_str_tuple, iT_str_dict, iT_list_int, iT_list_bool, iT_list_str, iT_list_list, iT_list_tuple, iT_list_dict, iT_tuple_int, iT_tuple_bool, iT_tuple_str, iT_tuple_list, iT_tuple_tuple, iT_tuple_dict, iT_dict_int, iT_dict_bool, iT_dict_str, iT_dict_list, iT_dict_tuple, iT_dict_dict]
        have es : ((List.range (k + 1)).map (hmT n st i)).sum = ((List.range k).map (hmT n st i)).sum + hmT n st i k := by
          rw [List.range_succ, List.map_append, List.sum_append]
          simp
        by_cases c1 : 0 ≤ (st : Int) - n + k
        · rw [if_pos (decide_eq_true c1)]
          by_cases c2 : (st : Int) - n + k ≤ n
          · rw [if_pos (decide_eq_true c2)]
            obtain ⟨g, hg⟩ := Int.eq_ofNat_of_zero_le c1
            have hp : L2.atI ((pasc n).map D.int) (i : Int) = some (.int ((pasc n).getD i 0)) := dI_at (by rw [pasc_len]; omega)
            have hr : L2.atI ((rgR n i).map D.int) (g : Int) = some (.int ((rgR n i).getD g 0)) := dI_at (by unfold rgR; rw [List.length_map, List.length_range]; omega)
            have q2 : (n : Int) - (i : Int) = ((n - i : Nat) : Int) := by omega
            have hf : L2.atI ((caL n (n + 1)).map dI) ((n - i : Nat) : Int) = some (.lst (((caL n (n + 1)).getD (n - i) []).map D.int)) := dII_at (by rw [caL_len]; omega)
            have hf2 : L2.atI (((caL n (n + 1)).getD (n - i) []).map D.int) (k : Int) = some (.int (((caL n (n + 1)).getD (n - i) []).getD k 0)) := dI_at (by rw [caL_at _ _ _ (by omega)]; unfold caR; rw [List.length_map, List.length_range]; omega)
            have ht : hmT n st i k = (pasc n).getD i 0 * (rgR n i).getD g 0 * ((caL n (n + 1)).getD (n - i) []).getD k 0 := hmT_pos hg (by rw [← hg]; exact c2)
            simp only [sSeq, sNil, sPass, sBreak, sCont, sDrop, sRet, sRetN, sIf, sSet, sSetC, sFor, sAsg, fCon, fOp, f2, fV, fE, fCell, fT, gYes, gAnd, gOr, gNot, fAnd, fOr, fNot, fIf, fNeg, fCh, fCall, fCallK, fCons, fNil, fTup, fLst, fDnew, rNil, rCons, fBlt, fRg, fAny, fLc, fSl, fO, fNoO, gNm, gPut, fM1, fBits, kEq, kNe, enOf, wipeS, unwS, List.getElem?_cons_zero, List.getElem?_cons_succ, List.set_cons_zero, List.set_cons_succ, List.append_nil, List.nil_append, List.cons_append, if_true, if_false, if_pos, Bool.false_eq_true, true_and, and_true, exists_eq_left', exists_eq_left, exists_and_left, D.int.injEq, D.str.injEq, D.lst.injEq, Option.some.injEq, exists_const, ite_true, ite_false, Bool.not_true, Bool.not_false, Bool.false_xor, Bool.true_xor, reduceIte, tyD, x_fVar, x_fv1, x_fv2, x_tl, x_td, x_fz1, x_fz2, x_fz3, x_fzS1, x_fzS2, x_vw_non, x_vw_bl, x_vw_int, x_vw_str, x_vw_lst, x_vw_tup, x_vw_dic, x_vw_raw, x_vw_loc, x_vwL, x_vw_new, x_vw_slo, x_vwS1, x_vwS2, x_isI, x_isB, x_add_i, x_add_s, x_add_l, x_add_t, x_mul_i, x_mul_s, x_mul_l, x_sub, x_mod, x_div, x_pow, x_lt_i, x_gt_i, x_le_i, x_ge_i, x_lt_s, x_gt_s, x_le_s, x_ge_s, x_in_s, x_in_ds, x_in_di, x_in_l, x_in_t, x_ix_l, x_ix_t, x_ix_s, x_ix_ds, x_ix_di, x_is, x_sl_l, x_sl_s, x_sl_t, x_len_l, x_len_t, x_len_s, x_len_d, x_list_l, x_list_t, x_sum, x_max, x_min, x_isi, x_rg1, x_rg2, x_rg3, x_wk_l, x_wk_t, x_wk_s, x_wk_d, x_enum, x_enS, x_zip, x_ziS, x_items, x_itS, x_values, x_vaS, x_rt1, x_rt2, x_rt3, x_rtS1, x_rtS2, x_set1, x_set2, x_set3, x_cell1, x_cell2, x_cell3, x_on1, x_on2, x_onS1, x_onS2, x_onL, x_put_l, x_put_ds, x_put_di, x_app, x_isL, x_mLst, x_tp, x_gs0, x_gs1, x_par2, x_par3, x_p2S, x_p3S, x_keep1, x_keep2, x_keep3, x_wR0, x_wR1, x_uR0, x_uR1, x_vws0, x_vws1, atI_0, atI_1, atI_2, atI_3, ixN_0, ixN_1, ixN_2, ixN_3, cmp_int, cmp_str, cmp_bl, eqD_int, eqD_str, eqD_bl, tT_NoneType, tT_bool, tT_int, tT_str, tT_list, tT_tuple, tT_dict, tN_int, tN_bool, tN_str, tN_list, tN_tuple, tN_dict, iT_NoneType_int, iT_NoneType_bool, iT_NoneType_str, iT_NoneType_list, iT_NoneType_tuple, iT_NoneType_dict, iT_bool_int, iT_bool_bool, iT_bool_str, iT_bool_list, iT_bool_tuple, iT_bool_dict, iT_int_int, iT_int_bool, iT_int_str, iT_int_list, iT_int_tuple, iT_int_dict, iT_str_int, iT_str_bool, iT_str_str, iT_str_list, iT_str_tuple, iT_str_dict, iT_list_int, iT_list_bool, iT_list_str, iT_list_list, iT_list_tuple, iT_list_dict, iT_tuple_int, iT_tuple_bool, iT_tuple_str, iT_tuple_list, iT_tuple_tuple, iT_tuple_dict, iT_dict_int, iT_dict_bool, iT_dict_str, iT_dict_list, iT_dict_tuple, iT_dict_dict, hg, chL_at (Nat.le_refl n), hp, rgL_at (show i < max 2 (n + 1) by omega), hr, q2, hf, hf2]
            refine ⟨mulok (.inl (all_getD (pasc_small n (by omega)) i)), mulok (.inr (ca_bound hn (Nat.le_refl _) _ _ (by omega))), hP _ ⟨.val (.int k), .val (.int g), ?_⟩⟩
            rw [es, ht, Int.add_assoc]
          · rw [if_neg (by simpa using c2)]
            refine hP _ ⟨.val (.int k), .val (.int ((st : Int) - n + k)), ?_⟩
            have ht : hmT n st i k = 0 := hmT_neg fun z => c2 z.2
            rw [es, ht, Int.add_zero]
        · rw [if_neg (by simpa using c1)]
          refine hP _ ⟨.val (.int k), .val (.int ((st : Int) - n + k)), ?_⟩
          have ht : hmT n st i k = 0 := hmT_neg fun z => c1 z.1
          rw [es, ht, Int.add_zero]
      · rintro s ⟨y, z, rfl⟩
        rw [upI_len]
        refine hP _ ⟨.val (.int i), y, z, ?_⟩
        have eS : ((List.range (i + 1)).map fun ringed => ((List.range (n - ringed + 1)).map (hmT n st ringed)).sum).sum = T + ((List.range (n - i + 1)).map (hmT n st i)).sum := by
          rw [← hT, List.range_succ (n := i), List.map_append, List.sum_append]
          simp
        rw [eS]
    · rintro s ⟨x, y, z, rfl⟩
      rw [upI_len]
      refine hN4 _ ?_
      simp only [sSeq, sNil, sPass, sBreak, sCont, sDrop, sRet, sRetN, sIf, sSet, sSetC, sFor, sAsg, fCon, fOp, f2, fV, fE, fCell, fT, gYes, gAnd, gOr, gNot, fAnd, fOr, fNot, fIf, fNeg, fCh, fCall, fCallK, fCons, fNil, fTup, fLst, fDnew, rNil, rCons, fBlt, fRg, fAny, fLc, fSl, fO, fNoO, gNm, gPut, fM1, fBits, kEq, kNe, enOf, wipeS, unwS, List.getElem?_cons_zero, List.getElem?_cons_succ, List.set_cons_zero, List.set_cons_succ, List.append_nil, List.nil_append, List.cons_append, if_true, if_false, if_pos, Bool.false_eq_true, true_and, and_true, exists_eq_left', exists_eq_left, exists_and_left, D.int.injEq, D.str.injEq, D.lst.injEq, Option.some.injEq, exists_const, ite_true, ite_false, Bool.not_true, Bool.not_false, Bool.false_xor, Bool.true_xor, reduceIte, tyD, x_fVar, x_fv1, x_fv2, x_tl, x_td, x_fz1, x_fz2, x_fz3, x_fzS1, x_fzS2, x_vw_non, x_vw_bl, x_vw_int, x_vw_str, x_vw_lst, x_vw_tup, x_vw_dic, x_vw_raw, x_vw_loc, x_vwL, x_vw_new, x_vw_slo, x_vwS1, x_vwS2, x_isI, x_isB, x_add_i, x_add_s, x_add_l, x_add_t, x_mul_i, x_mul_s, x_mul_l, x_sub, x_mod, x_div, x_pow, x_lt_i, x_gt_i, x_le_i, x_ge_i, x_lt_s, x_gt_s, x_le_s, x_ge_s, x_in_s, x_in_ds, x_in_di, x_in_l, x_in_t, x_ix_l, x_ix_t, x_ix_s, x_ix_ds, x_ix_di, x_is, x_sl_l, x_sl_s, x_sl_t, x_len_l, x_len_t, x_len_s, x_len_d, x_list_l, x_list_t, x_sum, x_max, x_min, x_isi, x_rg1, x_rg2, x_rg3, x_wk_l, x_wk_t, x_wk_s, x_wk_d, x_enum, x_enS, x_zip, x_ziS, x_items, x_itS, x_values, x_vaS, x_rt1, x_rt2, x_rt3, x_rtS1, x_rtS2, x_set1, x_set2, x_set3, x_cell1, x_cell2, x_cell3, x_on1, x_on2, x_onS1, x_onS2, x_onL, x_put_l, x_put_ds, x_put_di, x_app, x_isL, x_mLst, x_tp, x_gs0, x_gs1, x_par2, x_par3, x_p2S, x_p3S, x_keep1, x_keep2, x_keep3, x_wR0, x_wR1, x_uR0, x_uR1, x_vws0, x_vws1, atI_0, atI_1, atI_2, atI_3, ixN_0, ixN_1, ixN_2, ixN_3, cmp_int, cmp_str, cmp_bl, eqD_int, eqD_str, eqD_bl, tT_NoneType, tT_bool, tT_int, tT_str, tT_list, tT_tuple, tT_dict, tN_int, tN_bool, tN_str, tN_list, tN_tuple, tN_dict, iT_NoneType_int, iT_NoneType_bool, iT_NoneType_str, iT_NoneType_list, iT_NoneType_tuple, iT_NoneType_dict, iT_bool_int, iT_bool_bool, iT_bool_str, iT_bool_list, iT_bool_tuple, iT_bool_dict, iT_int_int, iT_int_bool, iT_int_str, iT_int_list, iT_int_tuple, iT_int_dict, iT_str_int, iT_str_bool, iT_str_str, iT_str_list, iT_str_tuple, iT_str_dict, iT_list_int, iT_list_bool, iT_list_str, iT_list_list, iT_list_tuple, iT_list_dict, iT_tuple_int, iT_tuple_bool, iT_tuple_str, iT_tuple_list, iT_tuple_tuple, iT_tuple_dict, iT_dict_int, iT_dict_bool, iT_dict_str, iT_dict_list, iT_dict_tuple, iT_dict_dict]
      exact h

section
variable {P : Program} {w : World} {K : PySem.W.Frag} {mg : Str → Option Value} {base : Heap}
theorem ok_is_whole (T : Txt mg)  {f : Addr} {fd : FuncData} (F : Fun K "is_whole" "is_whole" st_is_whole f fd) (m : mg "is_whole" = some (.ref f)) : FnC P w K mg base "is_whole" st_is_whole ["value"] c_is_whole 1 := ⟨f, fd, F, m, fn_ok F sc_is_whole len_is_whole ⟨fb_is_whole, fun _ _ _ _ _ _ hr => ds_is_whole T  hr, law_is_whole⟩, F.binds fun _ _ _ _ _ _ us hl => match us, hl with | [_], _ => rfl⟩
theorem ok_is_count (T : Txt mg) (F_is_whole : FnC P w K mg base "is_whole" st_is_whole ["value"] c_is_whole 1) {f : Addr} {fd : FuncData} (F : Fun K "is_count" "is_count" st_is_count f fd) (m : mg "is_count" = some (.ref f)) : FnC P w K mg base "is_count" st_is_count ["value"] c_is_count 2 := ⟨f, fd, F, m, fn_ok F sc_is_count len_is_count ⟨fb_is_count, fun _ _ _ _ _ _ hr => ds_is_count T F_is_whole hr, law_is_count⟩, F.binds fun _ _ _ _ _ _ us hl => match us, hl with | [_], _ => rfl⟩
theorem ok_check_count (T : Txt mg) (F_is_count : FnC P w K mg base "is_count" st_is_count ["value"] c_is_count 2) {f : Addr} {fd : FuncData} (F : Fun K "check_count" "check_count" st_check_count f fd) (m : mg "check_count" = some (.ref f)) : FnC P w K mg base "check_count" st_check_count ["number"] c_check_count 3 := ⟨f, fd, F, m, fn_ok F sc_check_count len_check_count ⟨fb_check_count, fun _ _ _ _ _ _ hr => ds_check_count T F_is_count hr, law_check_count⟩, F.binds fun _ _ _ _ _ _ us hl => match us, hl with | [_], _ => rfl⟩
theorem ok_choices (T : Txt mg)  {f : Addr} {fd : FuncData} (F : Fun K "choices" "choices" st_choices f fd) (m : mg "choices" = some (.ref f)) : FnC P w K mg base "choices" st_choices ["most"] c_choices 1 := ⟨f, fd, F, m, fn_ok F sc_choices len_choices ⟨fb_choices, fun _ _ _ _ _ _ hr => ds_choices T  hr, law_choices⟩, F.binds fun _ _ _ _ _ _ us hl => match us, hl with | [_], _ => rfl⟩
theorem ok_rings_by_number (T : Txt mg)  {f : Addr} {fd : FuncData} (F : Fun K "rings_by_number" "rings_by_number" st_rings_by_number f fd) (m : mg "rings_by_number" = some (.ref f)) : FnC P w K mg base "rings_by_number" st_rings_by_number ["most"] c_rings_by_number 1 := ⟨f, fd, F, m, fn_ok F sc_rings_by_number len_rings_by_number ⟨fb_rings_by_number, fun _ _ _ _ _ _ hr => ds_rings_by_number T  hr, law_rings_by_number⟩, F.binds fun _ _ _ _ _ _ us hl => match us, hl with | [_], _ => rfl⟩
theorem ok_power (T : Txt mg)  {f : Addr} {fd : FuncData} (F : Fun K "power" "power" st_power f fd) (m : mg "power" = some (.ref f)) : FnC P w K mg base "power" st_power ["base", "exponent"] c_power 1 := ⟨f, fd, F, m, fn_ok F sc_power len_power ⟨fb_power, fun _ _ _ _ _ _ hr => ds_power T  hr, law_power⟩, F.binds fun _ _ _ _ _ _ us hl => match us, hl with | [_, _], _ => rfl⟩
theorem ok_calm_by_stays (T : Txt mg) (F_power : FnC P w K mg base "power" st_power ["base", "exponent"] c_power 1) {f : Addr} {fd : FuncData} (F : Fun K "calm_by_stays" "calm_by_stays" st_calm_by_stays f fd) (m : mg "calm_by_stays" = some (.ref f)) : FnC P w K mg base "calm_by_stays" st_calm_by_stays ["most", "sets", "ringed_ways"] c_calm_by_stays 2 := ⟨f, fd, F, m, fn_ok F sc_calm_by_stays len_calm_by_stays ⟨fb_calm_by_stays, fun _ _ _ _ _ _ hr => ds_calm_by_stays T F_power hr, law_calm_by_stays⟩, F.binds fun _ _ _ _ _ _ us hl => match us, hl with | [_, _, _], _ => rfl⟩
theorem ok_how_many (T : Txt mg) (F_check_count : FnC P w K mg base "check_count" st_check_count ["number"] c_check_count 3) (F_rings_by_number : FnC P w K mg base "rings_by_number" st_rings_by_number ["most"] c_rings_by_number 1) (F_choices : FnC P w K mg base "choices" st_choices ["most"] c_choices 1) (F_calm_by_stays : FnC P w K mg base "calm_by_stays" st_calm_by_stays ["most", "sets", "ringed_ways"] c_calm_by_stays 2) {f : Addr} {fd : FuncData} (F : Fun K "how_many" "how_many" st_how_many f fd) (m : mg "how_many" = some (.ref f)) : FnC P w K mg base "how_many" st_how_many ["labels", "steps"] c_how_many 4 := ⟨f, fd, F, m, fn_ok F sc_how_many len_how_many ⟨fb_how_many, fun _ _ _ _ _ _ hr => ds_how_many T F_check_count F_rings_by_number F_choices F_calm_by_stays hr, law_how_many⟩, F.binds fun _ _ _ _ _ _ us hl => match us, hl with | [_, _], _ => rfl⟩
theorem ok_most_steps (T : Txt mg) (F_check_count : FnC P w K mg base "check_count" st_check_count ["number"] c_check_count 3) {f : Addr} {fd : FuncData} (F : Fun K "most_steps" "most_steps" st_most_steps f fd) (m : mg "most_steps" = some (.ref f)) : FnC P w K mg base "most_steps" st_most_steps ["labels"] c_most_steps 4 := ⟨f, fd, F, m, fn_ok F sc_most_steps len_most_steps ⟨fb_most_steps, fun _ _ _ _ _ _ hr => ds_most_steps T F_check_count hr, law_most_steps⟩, F.binds fun _ _ _ _ _ _ us hl => match us, hl with | [_], _ => rfl⟩
theorem ok__law_purse (T : Txt mg)  {f : Addr} {fd : FuncData} (F : Fun K "_law_purse" "_law_purse" st__law_purse f fd) (m : mg "_law_purse" = some (.ref f)) : FnC P w K mg base "_law_purse" st__law_purse ["_law_script", "_law_at"] c__law_purse 1 := ⟨f, fd, F, m, fn_ok F sc__law_purse len__law_purse ⟨fb__law_purse, fun _ _ _ _ _ _ hr => ds__law_purse T  hr, law__law_purse⟩, F.binds fun _ _ _ _ _ _ us hl => match us, hl with | [_, _], _ => rfl⟩
theorem ok__law_mixed (T : Txt mg)  {f : Addr} {fd : FuncData} (F : Fun K "_law_mixed" "_law_mixed" st__law_mixed f fd) (m : mg "_law_mixed" = some (.ref f)) : FnC P w K mg base "_law_mixed" st__law_mixed ["_law_seed", "_law_turn", "_law_at"] c__law_mixed 1 := ⟨f, fd, F, m, fn_ok F sc__law_mixed len__law_mixed ⟨fb__law_mixed, fun _ _ _ _ _ _ hr => ds__law_mixed T  hr, law__law_mixed⟩, F.binds fun _ _ _ _ _ _ us hl => match us, hl with | [_, _, _], _ => rfl⟩
theorem ok__law_draw (T : Txt mg) (F__law_mixed : FnC P w K mg base "_law_mixed" st__law_mixed ["_law_seed", "_law_turn", "_law_at"] c__law_mixed 1) {f : Addr} {fd : FuncData} (F : Fun K "_law_draw" "_law_draw" st__law_draw f fd) (m : mg "_law_draw" = some (.ref f)) : FnC P w K mg base "_law_draw" st__law_draw ["_law_purse_here", "_law_many"] c__law_draw 2 := ⟨f, fd, F, m, fn_ok F sc__law_draw len__law_draw ⟨fb__law_draw, fun _ _ _ _ _ _ hr => ds__law_draw T F__law_mixed hr, law__law_draw⟩, F.binds fun _ _ _ _ _ _ us hl => match us, hl with | [_, _], _ => rfl⟩
theorem ok__law_purses (T : Txt mg) (F__law_purse : FnC P w K mg base "_law_purse" st__law_purse ["_law_script", "_law_at"] c__law_purse 1) {f : Addr} {fd : FuncData} (F : Fun K "_law_purses" "_law_purses" st__law_purses f fd) (m : mg "_law_purses" = some (.ref f)) : FnC P w K mg base "_law_purses" st__law_purses ["_law_script", "_law_few"] c__law_purses 2 := ⟨f, fd, F, m, fn_ok F sc__law_purses len__law_purses ⟨fb__law_purses, fun _ _ _ _ _ _ hr => ds__law_purses T F__law_purse hr, law__law_purses⟩, F.binds fun _ _ _ _ _ _ us hl => match us, hl with | [_, _], _ => rfl⟩
theorem ok_law (T : Txt mg) (F__law_purses : FnC P w K mg base "_law_purses" st__law_purses ["_law_script", "_law_few"] c__law_purses 2) (F__law_draw : FnC P w K mg base "_law_draw" st__law_draw ["_law_purse_here", "_law_many"] c__law_draw 2) (F_how_many : FnC P w K mg base "how_many" st_how_many ["labels", "steps"] c_how_many 4) (F_most_steps : FnC P w K mg base "most_steps" st_most_steps ["labels"] c_most_steps 4) {f : Addr} {fd : FuncData} (F : Fun K "law" "law" st_law f fd) (m : mg "law" = some (.ref f)) : FnC P w K mg base "law" st_law ["_law_script"] c_law 5 := ⟨f, fd, F, m, fn_ok F sc_law len_law ⟨fb_law, fun _ _ _ _ _ _ hr => ds_law T F__law_purses F__law_draw F_how_many F_most_steps hr, law_law⟩, F.binds fun _ _ _ _ _ _ us hl => match us, hl with | [_], _ => rfl⟩
end
theorem all_mk {l : PySem.W.OpenLaw} {w : World} {K : PySem.W.Frag} {h : Heap} {mg : Str → Option Value} {fa f_is_whole f_is_count f_check_count f_choices f_rings_by_number f_power f_calm_by_stays f_how_many f_most_steps f__law_purse f__law_mixed f__law_draw f__law_purses f_law : Addr} (X : K.In h) (G : h.Ns mainGlobals mg) (hfa : mg "law" = some (.ref fa))
    {od_is_whole an_is_whole od_is_count an_is_count od_check_count an_check_count od_choices an_choices od_rings_by_number an_rings_by_number od_power an_power od_calm_by_stays an_calm_by_stays od_how_many an_how_many od_most_steps an_most_steps od__law_purse an__law_purse od__law_mixed an__law_mixed od__law_draw an__law_draw od__law_purses an__law_purses od_law an_law : Option Addr} {sl_is_whole sl_is_count sl_check_count sl_choices sl_rings_by_number sl_power sl_calm_by_stays sl_how_many sl_most_steps sl__law_purse sl__law_mixed sl__law_draw sl__law_purses sl_law : Array (Option Value)} {oc_is_whole kV_is_whole dc_is_whole pm_is_whole cd_is_whole ct_is_whole oc_is_count kV_is_count dc_is_count pm_is_count cd_is_count ct_is_count oc_check_count kV_check_count dc_check_count pm_check_count cd_check_count ct_check_count oc_choices kV_choices dc_choices pm_choices cd_choices ct_choices oc_rings_by_number kV_rings_by_number dc_rings_by_number pm_rings_by_number cd_rings_by_number ct_rings_by_number oc_power kV_power dc_power pm_power cd_power ct_power oc_calm_by_stays kV_calm_by_stays dc_calm_by_stays pm_calm_by_stays cd_calm_by_stays ct_calm_by_stays oc_how_many kV_how_many dc_how_many pm_how_many cd_how_many ct_how_many oc_most_steps kV_most_steps dc_most_steps pm_most_steps cd_most_steps ct_most_steps oc__law_purse kV__law_purse dc__law_purse pm__law_purse cd__law_purse ct__law_purse oc__law_mixed kV__law_mixed dc__law_mixed pm__law_mixed cd__law_mixed ct__law_mixed oc__law_draw kV__law_draw dc__law_draw pm__law_draw cd__law_draw ct__law_draw oc__law_purses kV__law_purses dc__law_purses pm__law_purses cd__law_purses ct__law_purses oc_law kV_law dc_law pm_law cd_law ct_law : Value}
    (a_is_whole : PySem.W.nsIn K mainGlobals "is_whole" = some (some (.ref f_is_whole))) (l_is_whole : K.lookup f_is_whole = some ⟨oc_is_whole, od_is_whole, .func (PySem.W.fnOf "is_whole" "is_whole" (defArgs st_is_whole) (defBody st_is_whole) (defScope st_is_whole) .none kV_is_whole dc_is_whole pm_is_whole an_is_whole cd_is_whole ct_is_whole), sl_is_whole⟩) (d_is_whole : PySem.W.codeIn K cd_is_whole "is_whole" = true) (k_is_whole : PySem.W.keepIn K (.ref f_is_whole) = true)
    (a_is_count : PySem.W.nsIn K mainGlobals "is_count" = some (some (.ref f_is_count))) (l_is_count : K.lookup f_is_count = some ⟨oc_is_count, od_is_count, .func (PySem.W.fnOf "is_count" "is_count" (defArgs st_is_count) (defBody st_is_count) (defScope st_is_count) .none kV_is_count dc_is_count pm_is_count an_is_count cd_is_count ct_is_count), sl_is_count⟩) (d_is_count : PySem.W.codeIn K cd_is_count "is_count" = true) (k_is_count : PySem.W.keepIn K (.ref f_is_count) = true)
    (a_check_count : PySem.W.nsIn K mainGlobals "check_count" = some (some (.ref f_check_count))) (l_check_count : K.lookup f_check_count = some ⟨oc_check_count, od_check_count, .func (PySem.W.fnOf "check_count" "check_count" (defArgs st_check_count) (defBody st_check_count) (defScope st_check_count) .none kV_check_count dc_check_count pm_check_count an_check_count cd_check_count ct_check_count), sl_check_count⟩) (d_check_count : PySem.W.codeIn K cd_check_count "check_count" = true) (k_check_count : PySem.W.keepIn K (.ref f_check_count) = true)
    (a_choices : PySem.W.nsIn K mainGlobals "choices" = some (some (.ref f_choices))) (l_choices : K.lookup f_choices = some ⟨oc_choices, od_choices, .func (PySem.W.fnOf "choices" "choices" (defArgs st_choices) (defBody st_choices) (defScope st_choices) .none kV_choices dc_choices pm_choices an_choices cd_choices ct_choices), sl_choices⟩) (d_choices : PySem.W.codeIn K cd_choices "choices" = true) (k_choices : PySem.W.keepIn K (.ref f_choices) = true)
    (a_rings_by_number : PySem.W.nsIn K mainGlobals "rings_by_number" = some (some (.ref f_rings_by_number))) (l_rings_by_number : K.lookup f_rings_by_number = some ⟨oc_rings_by_number, od_rings_by_number, .func (PySem.W.fnOf "rings_by_number" "rings_by_number" (defArgs st_rings_by_number) (defBody st_rings_by_number) (defScope st_rings_by_number) .none kV_rings_by_number dc_rings_by_number pm_rings_by_number an_rings_by_number cd_rings_by_number ct_rings_by_number), sl_rings_by_number⟩) (d_rings_by_number : PySem.W.codeIn K cd_rings_by_number "rings_by_number" = true) (k_rings_by_number : PySem.W.keepIn K (.ref f_rings_by_number) = true)
    (a_power : PySem.W.nsIn K mainGlobals "power" = some (some (.ref f_power))) (l_power : K.lookup f_power = some ⟨oc_power, od_power, .func (PySem.W.fnOf "power" "power" (defArgs st_power) (defBody st_power) (defScope st_power) .none kV_power dc_power pm_power an_power cd_power ct_power), sl_power⟩) (d_power : PySem.W.codeIn K cd_power "power" = true) (k_power : PySem.W.keepIn K (.ref f_power) = true)
    (a_calm_by_stays : PySem.W.nsIn K mainGlobals "calm_by_stays" = some (some (.ref f_calm_by_stays))) (l_calm_by_stays : K.lookup f_calm_by_stays = some ⟨oc_calm_by_stays, od_calm_by_stays, .func (PySem.W.fnOf "calm_by_stays" "calm_by_stays" (defArgs st_calm_by_stays) (defBody st_calm_by_stays) (defScope st_calm_by_stays) .none kV_calm_by_stays dc_calm_by_stays pm_calm_by_stays an_calm_by_stays cd_calm_by_stays ct_calm_by_stays), sl_calm_by_stays⟩) (d_calm_by_stays : PySem.W.codeIn K cd_calm_by_stays "calm_by_stays" = true) (k_calm_by_stays : PySem.W.keepIn K (.ref f_calm_by_stays) = true)
    (a_how_many : PySem.W.nsIn K mainGlobals "how_many" = some (some (.ref f_how_many))) (l_how_many : K.lookup f_how_many = some ⟨oc_how_many, od_how_many, .func (PySem.W.fnOf "how_many" "how_many" (defArgs st_how_many) (defBody st_how_many) (defScope st_how_many) .none kV_how_many dc_how_many pm_how_many an_how_many cd_how_many ct_how_many), sl_how_many⟩) (d_how_many : PySem.W.codeIn K cd_how_many "how_many" = true) (k_how_many : PySem.W.keepIn K (.ref f_how_many) = true)
    (a_most_steps : PySem.W.nsIn K mainGlobals "most_steps" = some (some (.ref f_most_steps))) (l_most_steps : K.lookup f_most_steps = some ⟨oc_most_steps, od_most_steps, .func (PySem.W.fnOf "most_steps" "most_steps" (defArgs st_most_steps) (defBody st_most_steps) (defScope st_most_steps) .none kV_most_steps dc_most_steps pm_most_steps an_most_steps cd_most_steps ct_most_steps), sl_most_steps⟩) (d_most_steps : PySem.W.codeIn K cd_most_steps "most_steps" = true) (k_most_steps : PySem.W.keepIn K (.ref f_most_steps) = true)
    (a__law_purse : PySem.W.nsIn K mainGlobals "_law_purse" = some (some (.ref f__law_purse))) (l__law_purse : K.lookup f__law_purse = some ⟨oc__law_purse, od__law_purse, .func (PySem.W.fnOf "_law_purse" "_law_purse" (defArgs st__law_purse) (defBody st__law_purse) (defScope st__law_purse) .none kV__law_purse dc__law_purse pm__law_purse an__law_purse cd__law_purse ct__law_purse), sl__law_purse⟩) (d__law_purse : PySem.W.codeIn K cd__law_purse "_law_purse" = true) (k__law_purse : PySem.W.keepIn K (.ref f__law_purse) = true)
    (a__law_mixed : PySem.W.nsIn K mainGlobals "_law_mixed" = some (some (.ref f__law_mixed))) (l__law_mixed : K.lookup f__law_mixed = some ⟨oc__law_mixed, od__law_mixed, .func (PySem.W.fnOf "_law_mixed" "_law_mixed" (defArgs st__law_mixed) (defBody st__law_mixed) (defScope st__law_mixed) .none kV__law_mixed dc__law_mixed pm__law_mixed an__law_mixed cd__law_mixed ct__law_mixed), sl__law_mixed⟩) (d__law_mixed : PySem.W.codeIn K cd__law_mixed "_law_mixed" = true) (k__law_mixed : PySem.W.keepIn K (.ref f__law_mixed) = true)
    (a__law_draw : PySem.W.nsIn K mainGlobals "_law_draw" = some (some (.ref f__law_draw))) (l__law_draw : K.lookup f__law_draw = some ⟨oc__law_draw, od__law_draw, .func (PySem.W.fnOf "_law_draw" "_law_draw" (defArgs st__law_draw) (defBody st__law_draw) (defScope st__law_draw) .none kV__law_draw dc__law_draw pm__law_draw an__law_draw cd__law_draw ct__law_draw), sl__law_draw⟩) (d__law_draw : PySem.W.codeIn K cd__law_draw "_law_draw" = true) (k__law_draw : PySem.W.keepIn K (.ref f__law_draw) = true)
    (a__law_purses : PySem.W.nsIn K mainGlobals "_law_purses" = some (some (.ref f__law_purses))) (l__law_purses : K.lookup f__law_purses = some ⟨oc__law_purses, od__law_purses, .func (PySem.W.fnOf "_law_purses" "_law_purses" (defArgs st__law_purses) (defBody st__law_purses) (defScope st__law_purses) .none kV__law_purses dc__law_purses pm__law_purses an__law_purses cd__law_purses ct__law_purses), sl__law_purses⟩) (d__law_purses : PySem.W.codeIn K cd__law_purses "_law_purses" = true) (k__law_purses : PySem.W.keepIn K (.ref f__law_purses) = true)
    (a_law : PySem.W.nsIn K mainGlobals "law" = some (some (.ref f_law))) (l_law : K.lookup f_law = some ⟨oc_law, od_law, .func (PySem.W.fnOf "law" "law" (defArgs st_law) (defBody st_law) (defScope st_law) .none kV_law dc_law pm_law an_law cd_law ct_law), sl_law⟩) (d_law : PySem.W.codeIn K cd_law "law" = true) (k_law : PySem.W.keepIn K (.ref f_law) = true)
    (z_isinstance : PySem.W.nsIn K mainGlobals "isinstance" = some none)
    (z_int : PySem.W.nsIn K mainGlobals "int" = some none)
    (z_bool : PySem.W.nsIn K mainGlobals "bool" = some none)
    (z_range : PySem.W.nsIn K mainGlobals "range" = some none)
    (z_zip : PySem.W.nsIn K mainGlobals "zip" = some none)
    (z_sum : PySem.W.nsIn K mainGlobals "sum" = some none)
    (z_max : PySem.W.nsIn K mainGlobals "max" = some none)
    (z_min : PySem.W.nsIn K mainGlobals "min" = some none)
    (z_len : PySem.W.nsIn K mainGlobals "len" = some none)
    : ∃ fd : FuncData, (∀ (s : Shared) (v : Value), BindsTo s fd ⟨[v], []⟩ [("_law_script", v)]) ∧ ∀ base : Heap, K.In base → base.Ns mainGlobals mg → FnOk l.prog w K mg base CX0 5 fa fd ["_law_script"] (specOf c_law) := by
  have e := hfa.symm.trans (PySem.W.mg_of X G a_law)
  cases e
  have T : Txt mg := ⟨PySem.W.mg_none_of X G z_isinstance, PySem.W.mg_none_of X G z_int, PySem.W.mg_none_of X G z_bool, PySem.W.mg_none_of X G z_range, PySem.W.mg_none_of X G z_zip, PySem.W.mg_none_of X G z_sum, PySem.W.mg_none_of X G z_max, PySem.W.mg_none_of X G z_min, PySem.W.mg_none_of X G z_len⟩
  have F_is_whole := fun_mk (st := st_is_whole) l_is_whole d_is_whole k_is_whole
  have F_is_count := fun_mk (st := st_is_count) l_is_count d_is_count k_is_count
  have F_check_count := fun_mk (st := st_check_count) l_check_count d_check_count k_check_count
  have F_choices := fun_mk (st := st_choices) l_choices d_choices k_choices
  have F_rings_by_number := fun_mk (st := st_rings_by_number) l_rings_by_number d_rings_by_number k_rings_by_number
  have F_power := fun_mk (st := st_power) l_power d_power k_power
  have F_calm_by_stays := fun_mk (st := st_calm_by_stays) l_calm_by_stays d_calm_by_stays k_calm_by_stays
  have F_how_many := fun_mk (st := st_how_many) l_how_many d_how_many k_how_many
  have F_most_steps := fun_mk (st := st_most_steps) l_most_steps d_most_steps k_most_steps
  have F__law_purse := fun_mk (st := st__law_purse) l__law_purse d__law_purse k__law_purse
  have F__law_mixed := fun_mk (st := st__law_mixed) l__law_mixed d__law_mixed k__law_mixed
  have F__law_draw := fun_mk (st := st__law_draw) l__law_draw d__law_draw k__law_draw
  have F__law_purses := fun_mk (st := st__law_purses) l__law_purses d__law_purses k__law_purses
  have F_law := fun_mk (st := st_law) l_law d_law k_law
  refine ⟨_, fun s v => BindsTo.of_eq (fd := PySem.W.fnOf "law" "law" (defArgs st_law) (defBody st_law) (defScope st_law) .none kV_law dc_law pm_law an_law cd_law ct_law) rfl, fun base _ _ => ?_⟩
  have C_is_whole := ok_is_whole (P := l.prog) (w := w) (base := base) T  F_is_whole (PySem.W.mg_of X G a_is_whole)
  have C_is_count := ok_is_count (P := l.prog) (w := w) (base := base) T C_is_whole F_is_count (PySem.W.mg_of X G a_is_count)
  have C_check_count := ok_check_count (P := l.prog) (w := w) (base := base) T C_is_count F_check_count (PySem.W.mg_of X G a_check_count)
  have C_choices := ok_choices (P := l.prog) (w := w) (base := base) T  F_choices (PySem.W.mg_of X G a_choices)
  have C_rings_by_number := ok_rings_by_number (P := l.prog) (w := w) (base := base) T  F_rings_by_number (PySem.W.mg_of X G a_rings_by_number)
  have C_power := ok_power (P := l.prog) (w := w) (base := base) T  F_power (PySem.W.mg_of X G a_power)
  have C_calm_by_stays := ok_calm_by_stays (P := l.prog) (w := w) (base := base) T C_power F_calm_by_stays (PySem.W.mg_of X G a_calm_by_stays)
  have C_how_many := ok_how_many (P := l.prog) (w := w) (base := base) T C_check_count C_rings_by_number C_choices C_calm_by_stays F_how_many (PySem.W.mg_of X G a_how_many)
  have C_most_steps := ok_most_steps (P := l.prog) (w := w) (base := base) T C_check_count F_most_steps (PySem.W.mg_of X G a_most_steps)
  have C__law_purse := ok__law_purse (P := l.prog) (w := w) (base := base) T  F__law_purse (PySem.W.mg_of X G a__law_purse)
  have C__law_mixed := ok__law_mixed (P := l.prog) (w := w) (base := base) T  F__law_mixed (PySem.W.mg_of X G a__law_mixed)
  have C__law_draw := ok__law_draw (P := l.prog) (w := w) (base := base) T C__law_mixed F__law_draw (PySem.W.mg_of X G a__law_draw)
  have C__law_purses := ok__law_purses (P := l.prog) (w := w) (base := base) T C__law_purse F__law_purses (PySem.W.mg_of X G a__law_purses)
  exact fn_ok F_law sc_law len_law ⟨fb_law, fun _ _ _ _ _ _ hr => ds_law T C__law_purses C__law_draw C_how_many C_most_steps hr, law_law⟩
theorem walk {l : PySem.W.OpenLaw} {q : Program} {loose : List Str} {XP : (Str → Option Value) → Heap → Prop} {YP : World → Heap → Prop} {d : DefRec} {K : Params → PySem.W.Frag} (hn : l.most = some 63) (hdf : d.params.defaults = [])
    (hY : ∀ (w : World) (h : Heap), YP w h → (K w.params).In h) (hK : ∀ w : World, noLst (K w.params) = true)
    (F : ∀ (w : World) (mg : Str → Option Value) (fa : Addr) (h : Heap), (K w.params).In h → h.Ns mainGlobals mg → mg d.name = some (.ref fa) →
      ∃ fd : FuncData, (∀ (s : Shared) (u : Value), BindsTo s fd ⟨[u], []⟩ [("_law_script", u)]) ∧ ∀ base : Heap, (K w.params).In base → base.Ns mainGlobals mg → FnOk l.prog w (K w.params) mg base CX0 5 fa fd ["_law_script"] (specOf c_law)) :
    PySem.W.WalkO q loose XP YP l.row.toRowW d [] (fun f vs => PySem.call f vs) :=
  L2.walk_ofB (n := 63) (k := 5) (x := "_law_script") (CX := fun _ => CX0) (sp := fun _ => specOf c_law) hn (by decide) hdf ⟨rfl, by decide, by decide⟩ hY F (fun w H a ns hl hb _ hS => script_in (hK w) hS (of_script hl hb)) fun _ _ _ _ _ z => z
end Kx
open PySem PySem.W PyProof.Rows
set_option maxRecDepth 100000 in
set_option maxHeartbeats 0 in
theorem PySem.Challenge.cw_relabelsteps_k63_tables_by_name_holds : PySem.Challenge.rw_relabelsteps_k63_tables_by_name.Holds := by
  w_on; o_law; k_head; (case hw => w_witness2)
  k_fill
  refine Kx.walk (l := PySem.Challenge.rw_relabelsteps_k63_tables_by_name) rfl rfl (fun w h Y => PySem.W.kIn_of Y) ?HK ?F
  case HK => exact fun w => Eq.refl true
  case F =>
    intro w mg fa h KX G hmg
    refine' Kx.all_mk KX G hmg ?a_is_whole ?l_is_whole ?d_is_whole ?k_is_whole ?a_is_count ?l_is_count ?d_is_count ?k_is_count ?a_check_count ?l_check_count ?d_check_count ?k_check_count ?a_choices ?l_choices ?d_choices ?k_choices ?a_rings_by_number ?l_rings_by_number ?d_rings_by_number ?k_rings_by_number ?a_power ?l_power ?d_power ?k_power ?a_calm_by_stays ?l_calm_by_stays ?d_calm_by_stays ?k_calm_by_stays ?a_how_many ?l_how_many ?d_how_many ?k_how_many ?a_most_steps ?l_most_steps ?d_most_steps ?k_most_steps ?a__law_purse ?l__law_purse ?d__law_purse ?k__law_purse ?a__law_mixed ?l__law_mixed ?d__law_mixed ?k__law_mixed ?a__law_draw ?l__law_draw ?d__law_draw ?k__law_draw ?a__law_purses ?l__law_purses ?d__law_purses ?k__law_purses ?a_law ?l_law ?d_law ?k_law ?z_isinstance ?z_int ?z_bool ?z_range ?z_zip ?z_sum ?z_max ?z_min ?z_len
    (case a_is_whole => k_is); (case l_is_whole => k_is); (case d_is_whole => k_is); (case k_is_whole => k_is); (case a_is_count => k_is); (case l_is_count => k_is)
    (case d_is_count => k_is); (case k_is_count => k_is); (case a_check_count => k_is); (case l_check_count => k_is); (case d_check_count => k_is); (case k_check_count => k_is)
    (case a_choices => k_is); (case l_choices => k_is); (case d_choices => k_is); (case k_choices => k_is); (case a_rings_by_number => k_is); (case l_rings_by_number => k_is)
    (case d_rings_by_number => k_is); (case k_rings_by_number => k_is); (case a_power => k_is); (case l_power => k_is); (case d_power => k_is); (case k_power => k_is)
    (case a_calm_by_stays => k_is); (case l_calm_by_stays => k_is); (case d_calm_by_stays => k_is); (case k_calm_by_stays => k_is); (case a_how_many => k_is); (case l_how_many => k_is)
    (case d_how_many => k_is); (case k_how_many => k_is); (case a_most_steps => k_is); (case l_most_steps => k_is); (case d_most_steps => k_is); (case k_most_steps => k_is)
    (case a__law_purse => k_is); (case l__law_purse => k_is); (case d__law_purse => k_is); (case k__law_purse => k_is); (case a__law_mixed => k_is); (case l__law_mixed => k_is)
    (case d__law_mixed => k_is); (case k__law_mixed => k_is); (case a__law_draw => k_is); (case l__law_draw => k_is); (case d__law_draw => k_is); (case k__law_draw => k_is)
    (case a__law_purses => k_is); (case l__law_purses => k_is); (case d__law_purses => k_is); (case k__law_purses => k_is); (case a_law => k_is); (case l_law => k_is)
    (case d_law => k_is); (case k_law => k_is); (case z_isinstance => k_is); (case z_int => k_is); (case z_bool => k_is); (case z_range => k_is)
    (case z_zip => k_is); (case z_sum => k_is); (case z_max => k_is); (case z_min => k_is); (case z_len => k_is)

