import PyProof.Rows.All
import Wide.All
import OpenK.AllK
import Wide.FinOn
import HandS.ForMost
import HandS.Conv
import HandS.NoneIn
import HandS.IsInst
import HandS.Wide
import PySem.Challenge.RW_lettercourt_k67_divisors_and_charpolys
set_option Elab.async false
set_option linter.all false
set_option maxRecDepth 100000
set_option maxHeartbeats 1000000
/-! DL: nested data over the abstract heap, a world of mutable lists, and a calculus of readings that speaks of neither heap nor address of data. -/
namespace DL
open PySem PySem.Spec PyProof.Rows L2

inductive Dat where
  | non | bl (b : Bool) | int (i : Int) | str (x : Str) | byt (b : Array UInt8) | flt (b : UInt64) | ty (n : String)
  | tup (xs : List Dat) | lst (xs : List Dat) | slst (xs : List Dat) | obj (a : Addr)

/-- the mutable lists, by address -/
abbrev Wd := Addr → Option (List Dat)
def Wd.put (w : Wd) (p : Addr) (xs : List Dat) : Wd := fun q => if q = p then some xs else w q
def Wd.del (w : Wd) (p : Addr) : Wd := fun q => if q = p then none else w q
theorem Wd.put_same {w : Wd} {p : Addr} {xs : List Dat} : w.put p xs p = some xs := by unfold Wd.put; rw [if_pos rfl]
theorem Wd.put_ne {w : Wd} {p q : Addr} {xs : List Dat} (h : q ≠ p) : w.put p xs q = w q := by unfold Wd.put; rw [if_neg h]
theorem Wd.put_put {w : Wd} {p : Addr} {xs ys : List Dat} : (w.put p xs).put p ys = w.put p ys := by
  funext q; unfold Wd.put; split <;> rfl
theorem Wd.put_of {w : Wd} {p q : Addr} {xs ys : List Dat} (h : w p = none) (h2 : w q = some ys) : w.put p xs q = some ys := by
  rw [Wd.put_ne]
  · exact h2
  · rintro rfl; rw [h] at h2; cases h2
theorem Wd.del_put {w : Wd} {p : Addr} {xs : List Dat} (h : w p = none) : (w.put p xs).del p = w := by
  funext q; unfold Wd.del Wd.put; split
  · next e => rw [e, h]
  · rfl
theorem Wd.put_comm {w : Wd} {p q : Addr} {xs ys : List Dat} (h : p ≠ q) : (w.put p xs).put q ys = (w.put q ys).put p xs := by
  funext r; unfold Wd.put; split
  · next e => subst e; rw [if_neg (Ne.symm h)]
  · rfl
theorem Wd.put_self {w : Wd} {p : Addr} {xs : List Dat} (h : w p = some xs) : w.put p xs = w := by
  funext q; unfold Wd.put; split
  · next e => rw [e, h]
  · rfl

mutual
/-- the value v is the data d: frozen parts stand at addresses that the world does not hold -/
def rd (K : PySem.W.Frag) (w : Wd) (H : Hp) : Dat → V → Prop
  | .non, v => v = .non
  | .bl b, v => v = .bl b
  | .int i, v => v = .int i
  | .str x, v => v = .str x
  | .byt b, v => v = .byt b
  | .flt b, v => v = .flt b
  | .ty n, v => v = .ty n
  | .obj a, v => v = .ref a
  | .tup ds, v => ∃ p vs, v = .ref p ∧ (w p = none ∧ H p = some (.tup vs)) ∧ rds K w H ds vs
  | .lst ds, v => ∃ p vs, v = .ref p ∧ (w p = none ∧ H p = some (.lst vs)) ∧ rds K w H ds vs
  | .slst ds, v => ∃ p vs, v = .ref p ∧ ((w p = none ∧ Rd H p (.lst vs)) ∨
      ∃ (o : Obj) (its : Array Value) (n : Nat), K.lookup p = some o ∧ o.cls = .type "list" ∧ o.dict = none ∧ o.data = .seq its n ∧ its.size ≤ sizeLine ∧ Vals vs its.toList) ∧ rds K w H ds vs
def rds (K : PySem.W.Frag) (w : Wd) (H : Hp) : List Dat → List V → Prop
  | [], vs => vs = []
  | d :: ds, vs => ∃ v r, vs = v :: r ∧ rd K w H d v ∧ rds K w H ds r
end

def ofV : V → Dat
  | .non => .non
  | .bl b => .bl b
  | .int i => .int i
  | .str x => .str x
  | .byt b => .byt b
  | .flt b => .flt b
  | .ty n => .ty n
  | .ref a => .obj a

section
variable {K : PySem.W.Frag} {w w' : Wd} {H H' : Hp}
theorem rd_ofV (v : V) : rd K w H (ofV v) v := by cases v <;> rfl
theorem rds_length : ∀ {ds : List Dat} {vs : List V}, rds K w H ds vs → ds.length = vs.length
  | [], _, h => by rw [show _ = [] from h]; rfl
  | d :: ds, _, h => by
    obtain ⟨v, r, rfl, _, h2⟩ := h
    simp only [List.length_cons]
    rw [rds_length h2]
theorem rds_get : ∀ {ds : List Dat} {vs : List V} {i : Nat} {d : Dat}, rds K w H ds vs → ds[i]? = some d → ∃ v, vs[i]? = some v ∧ rd K w H d v
  | [], _, _, _, _, e => by simp at e
  | _ :: _, _, 0, _, h, e => by
    obtain ⟨v, r, rfl, h1, _⟩ := h
    simp at e; subst e
    exact ⟨v, by simp, h1⟩
  | _ :: _, _, i + 1, _, h, e => by
    obtain ⟨v, r, rfl, _, h2⟩ := h
    obtain ⟨u, q1, q2⟩ := rds_get (i := i) h2 (by simpa using e)
    exact ⟨u, by simpa using q1, q2⟩
theorem rds_getV : ∀ {ds : List Dat} {vs : List V} {i : Nat} {v : V}, rds K w H ds vs → vs[i]? = some v → ∃ d, ds[i]? = some d ∧ rd K w H d v
  | [], _, _, _, h, e => by
    rw [show _ = [] from h] at e
    simp at e
  | _ :: _, _, 0, _, h, e => by
    obtain ⟨v, r, rfl, h1, _⟩ := h
    simp at e; subst e
    exact ⟨_, by simp, h1⟩
  | _ :: _, _, i + 1, _, h, e => by
    obtain ⟨v, r, rfl, _, h2⟩ := h
    obtain ⟨u, q1, q2⟩ := rds_getV (i := i) h2 (by simpa using e)
    exact ⟨u, by simpa using q1, q2⟩
theorem rds_append : ∀ {ds es : List Dat} {vs us : List V}, rds K w H ds vs → rds K w H es us → rds K w H (ds ++ es) (vs ++ us)
  | [], _, _, _, h, h' => by
    rw [show _ = [] from h]
    exact h'
  | d :: ds, _, _, _, h, h' => by
    obtain ⟨v, r, rfl, h1, h2⟩ := h
    exact ⟨v, r ++ _, rfl, h1, rds_append h2 h'⟩
theorem rds_set : ∀ {ds : List Dat} {vs : List V} {d : Dat} {v : V} (i : Nat), rds K w H ds vs → rd K w H d v → rds K w H (ds.set i d) (vs.set i v)
  | [], _, _, _, _, h, _ => by
    rw [show _ = [] from h]
    exact rfl
  | _ :: _, _, _, v, 0, h, h' => by
    obtain ⟨u, r, rfl, h1, h2⟩ := h
    exact ⟨v, r, rfl, h', h2⟩
  | _ :: _, _, _, _, i + 1, h, h' => by
    obtain ⟨u, r, rfl, h1, h2⟩ := h
    exact ⟨u, _, rfl, h1, rds_set i h2 h'⟩
theorem rds_drop : ∀ {ds : List Dat} {vs : List V} (n : Nat), rds K w H ds vs → rds K w H (ds.drop n) (vs.drop n)
  | _, _, 0, h => h
  | [], _, n + 1, h => by
    rw [show _ = [] from h]
    exact rfl
  | _ :: _, _, n + 1, h => by
    obtain ⟨u, r, rfl, h1, h2⟩ := h
    exact rds_drop n h2
theorem rds_take : ∀ {ds : List Dat} {vs : List V} (n : Nat), rds K w H ds vs → rds K w H (ds.take n) (vs.take n)
  | _, _, 0, _ => rfl
  | [], _, n + 1, h => by
    rw [show _ = [] from h]
    exact rfl
  | _ :: _, _, n + 1, h => by
    obtain ⟨u, r, rfl, h1, h2⟩ := h
    exact ⟨u, _, rfl, h1, rds_take n h2⟩
theorem rds_erase : ∀ {ds : List Dat} {vs : List V} (n : Nat), rds K w H ds vs → rds K w H (ds.eraseIdx n) (vs.eraseIdx n)
  | [], _, n, h => by
    rw [show _ = [] from h]
    exact rfl
  | _ :: _, _, 0, h => by
    obtain ⟨u, r, rfl, h1, h2⟩ := h
    exact h2
  | _ :: _, _, n + 1, h => by
    obtain ⟨u, r, rfl, h1, h2⟩ := h
    exact ⟨u, _, rfl, h1, rds_erase n h2⟩
theorem rds_dropLast {ds : List Dat} {vs : List V} (h : rds K w H ds vs) : rds K w H ds.dropLast vs.dropLast := by
  rw [List.dropLast_eq_take, List.dropLast_eq_take, rds_length h]
  exact rds_take _ h
theorem rds_ints : ∀ {ns : List Int} {vs : List V}, rds K w H (ns.map Dat.int) vs → vs = ns.map V.int
  | [], _, h => h
  | n :: ns, _, h => by
    obtain ⟨v, r, rfl, h1, h2⟩ := h
    rw [show v = V.int n from h1, rds_ints h2]
    rfl
theorem rds_of_ints : ∀ (ns : List Int), rds K w H (ns.map Dat.int) (ns.map V.int)
  | [] => rfl
  | n :: ns => ⟨_, _, rfl, rfl, rds_of_ints ns⟩
theorem rds_bls : ∀ {ns : List Bool} {vs : List V}, rds K w H (ns.map Dat.bl) vs → vs = ns.map V.bl
  | [], _, h => h
  | n :: ns, _, h => by
    obtain ⟨v, r, rfl, h1, h2⟩ := h
    rw [show v = V.bl n from h1, rds_bls h2]
    rfl

/-- from (w, H) to (w', H'): what the world does not hold stands; what it holds anew was free -/
structure Ext (w w' : Wd) (H H' : Hp) : Prop where
  keep : ∀ a o, w a = none → H a = some o → H' a = some o
  dom : ∀ a, w' a ≠ none → w a ≠ none ∨ H a = none
theorem Ext.refl : Ext w w H H := ⟨fun _ _ _ h => h, fun _ h => .inl h⟩
theorem Ext.none' (e : Ext w w' H H') {a : Addr} {o : HO} (h : w a = none) (hH : H a = some o) : w' a = none := by
  cases q : w' a with
  | none => rfl
  | some x =>
    rcases e.dom a (by rw [q]; simp) with z | z
    · exact absurd h z
    · rw [hH] at z; cases z
theorem Ext.trans {w1 w2 : Wd} {H1 H2 : Hp} (a : Ext w w1 H H1) (b : Ext w1 w2 H1 H2) : Ext w w2 H H2 := by
  refine ⟨fun c o n h => ?_, fun c h => ?_⟩
  · exact b.keep c o (a.none' n h) (a.keep c o n h)
  · rcases b.dom c h with z | z
    · exact a.dom c z
    · cases q : H c with
      | none => exact .inr rfl
      | some o =>
        refine .inl fun n => ?_
        rw [a.keep c o n q] at z
        cases z
mutual
theorem rd_ext (e : Ext w w' H H') : ∀ {d : Dat} {v : V}, rd K w H d v → rd K w' H' d v
  | .non, _, h => h
  | .bl _, _, h => h
  | .int _, _, h => h
  | .str _, _, h => h
  | .byt _, _, h => h
  | .flt _, _, h => h
  | .ty _, _, h => h
  | .obj _, _, h => h
  | .tup ds, _, h => by
    obtain ⟨p, vs, e1, ⟨n, q⟩, r⟩ := h
    exact ⟨p, vs, e1, ⟨e.none' n q, e.keep _ _ n q⟩, rds_ext e r⟩
  | .lst ds, _, h => by
    obtain ⟨p, vs, e1, ⟨n, q⟩, r⟩ := h
    exact ⟨p, vs, e1, ⟨e.none' n q, e.keep _ _ n q⟩, rds_ext e r⟩
  | .slst ds, _, h => by
    obtain ⟨p, vs, e1, q, r⟩ := h
    refine ⟨p, vs, e1, ?_, rds_ext e r⟩
    rcases q with ⟨n, q | ⟨o, q⟩⟩ | q
    · exact .inl ⟨e.none' n q, .inl (e.keep _ _ n q)⟩
    · exact .inl ⟨e.none' n q, .inr ⟨o, e.keep _ _ n q⟩⟩
    · exact .inr q
theorem rds_ext (e : Ext w w' H H') : ∀ {ds : List Dat} {vs : List V}, rds K w H ds vs → rds K w' H' ds vs
  | [], _, h => h
  | _ :: _, _, h => by
    obtain ⟨v, r, e1, h1, h2⟩ := h
    exact ⟨v, r, e1, rd_ext e h1, rds_ext e h2⟩
end
/-- fewer held addresses -/
theorem Ext.weak (h : ∀ a, w' a ≠ none → w a ≠ none) : Ext w w' H H := ⟨fun _ _ _ h => h, fun a z => .inl (h a z)⟩

/-- the world stands in the heap -/
def wr (K : PySem.W.Frag) (w : Wd) (H : Hp) : Prop := ∀ a xs, w a = some xs → ∃ vs, H a = some (.lst vs) ∧ rds K w H xs vs
/-- part of a world -/
def sub (w' w : Wd) : Prop := ∀ a xs, w' a = some xs → w a = some xs
theorem sub.refl : sub w w := fun _ _ h => h
theorem sub.ext (s : sub w' w) : Ext w w' H H := .weak fun a h n => by
  cases q : w' a with
  | none => exact h q
  | some xs => rw [s a xs q] at n; cases n
theorem wr.sub (h : wr K w H) (s : sub w' w) : wr K w' H := fun a xs q => by
  obtain ⟨vs, h1, h2⟩ := h a xs (s a xs q)
  exact ⟨vs, h1, rds_ext s.ext h2⟩
theorem sub_del {w : Wd} {p : Addr} : sub (w.del p) w := fun a xs h => by
  unfold Wd.del at h
  split at h
  · cases h
  · exact h
theorem sub_put {w : Wd} {p : Addr} {xs : List Dat} (h : w p = none) : sub w (w.put p xs) := fun a ys q => Wd.put_of h q

abbrev Env := List (Option Dat)
def ER (K : PySem.W.Frag) (w : Wd) (H : Hp) (σ : L2.St) (ρ : Env) : Prop := σ.length = ρ.length ∧ ∀ (i : Nat) d, ρ[i]? = some (some d) → ∃ v, σ[i]? = some (some v) ∧ rd K w H d v
theorem ER.ext {σ : L2.St} {ρ : Env} (h : ER K w H σ ρ) (e : Ext w w' H H') : ER K w' H' σ ρ := ⟨h.1, fun i d q => by
  obtain ⟨v, h1, h2⟩ := h.2 i d q
  exact ⟨v, h1, rd_ext e h2⟩⟩
theorem ER.set {σ : L2.St} {ρ : Env} {i : Nat} {d : Dat} {v : V} (h : ER K w H σ ρ) (r : rd K w H d v) : ER K w H (σ.set i (some v)) (ρ.set i (some d)) := by
  refine ⟨by simpa using h.1, fun j e q => ?_⟩
  by_cases hj : i = j
  · subst hj
    have hl : i < ρ.length := by
      have := (List.getElem?_eq_some_iff.mp q).1
      simpa using this
    rw [List.getElem?_set_self hl] at q
    cases q
    exact ⟨v, List.getElem?_set_self (by rw [h.1]; exact hl), r⟩
  · rw [List.getElem?_set_ne hj] at q
    obtain ⟨u, h1, h2⟩ := h.2 j e q
    exact ⟨u, by rw [List.getElem?_set_ne hj]; exact h1, h2⟩
theorem ER.unset {σ : L2.St} {ρ : Env} {i : Nat} (h : ER K w H σ ρ) : ER K w H (σ.set i none) (ρ.set i none) := by
  refine ⟨by simpa using h.1, fun j e q => ?_⟩
  by_cases hj : i = j
  · subst hj
    have hl : i < ρ.length := by
      have := (List.getElem?_eq_some_iff.mp q).1
      simpa using this
    rw [List.getElem?_set_self hl] at q
    cases q
  · rw [List.getElem?_set_ne hj] at q
    obtain ⟨u, h1, h2⟩ := h.2 j e q
    exact ⟨u, by rw [List.getElem?_set_ne hj]; exact h1, h2⟩
/-- slots forgotten -/
def wipeD (ρ : Env) : List Nat → Env
  | [] => ρ
  | v :: vs => (wipeD ρ vs).set v none
theorem ER.wipe {σ : L2.St} {ρ : Env} (h : ER K w H σ ρ) : ∀ vs : List Nat, ER K w H (L2.wipe σ vs) (wipeD ρ vs)
  | [] => h
  | v :: vs => (ER.wipe h vs).unset
/-- forgetting a slot's data -/
theorem ER.weak {σ : L2.St} {ρ ρ' : Env} (h : ER K w H σ ρ) (hl : ρ'.length = ρ.length) (hw : ∀ (i : Nat) (d : Dat), ρ'[i]? = some (some d) → ρ[i]? = some (some d)) : ER K w H σ ρ' := ⟨by rw [h.1, hl], fun i d q => h.2 i d (hw i d q)⟩

theorem same_free {p : Addr} (e : Ext w w' H H') (h : H' p = none) : w p ≠ none ∨ H p = none := by
  cases q : H p with
  | none => exact .inr rfl
  | some o =>
    refine .inl fun n => ?_
    rw [e.keep p o n q] at h
    cases h
theorem wr.dom (h : wr K w H) {p : Addr} (n : H p = none) : w p = none := by
  cases q : w p with
  | none => rfl
  | some xs =>
    obtain ⟨vs, e, _⟩ := h p xs q
    rw [n] at e; cases e

/-- a new object of another kind (a tuple) -/
theorem Ext.new {p : Addr} {o : HO} (h : H p = none) : Ext w w H (upd H p o) := ⟨fun a u _ e => by rw [upd_ne (ne_of_none e h)]; exact e, fun _ h => .inl h⟩
theorem wr.new {p : Addr} {o : HO} (hw : wr K w H) (h : H p = none) : wr K w (upd H p o) := fun a xs q => by
  obtain ⟨vs, e, r⟩ := hw a xs q
  exact ⟨vs, by rw [upd_ne (ne_of_none e h)]; exact e, rds_ext (Ext.new h) r⟩
/-- a new mutable list -/
theorem Ext.newL {p : Addr} {o : HO} {xs : List Dat} (h : H p = none) : Ext w (w.put p xs) H (upd H p o) := ⟨fun a u _ e => by rw [upd_ne (ne_of_none e h)]; exact e, fun a z => by
  by_cases e : a = p
  · exact .inr (by rw [e]; exact h)
  · rw [Wd.put_ne e] at z; exact .inl z⟩
/-- a mutable list changes -/
theorem Ext.mut {p : Addr} {o : HO} {xs : List Dat} (h : w p ≠ none) : Ext w (w.put p xs) H (upd H p o) := ⟨fun a u n e => by
  rw [upd_ne (fun z => h (by rw [← z]; exact n))]; exact e, fun a z => by
  by_cases e : a = p
  · rw [e]; exact .inl h
  · rw [Wd.put_ne e] at z; exact .inl z⟩
theorem wr.put {p : Addr} {xs : List Dat} {vs : List V} (hw : wr K w H) (e : Ext w (w.put p xs) H (upd H p (.lst vs))) (r : rds K w H xs vs) : wr K (w.put p xs) (upd H p (.lst vs)) := fun a ys q => by
  by_cases h : a = p
  · subst h
    rw [Wd.put_same] at q; cases q
    exact ⟨vs, upd_same, rds_ext e r⟩
  · rw [Wd.put_ne h] at q
    obtain ⟨us, e1, r1⟩ := hw a ys q
    exact ⟨us, by rw [upd_ne h]; exact e1, rds_ext e r1⟩
end
end DL
set_option Elab.async false
set_option linter.all false
set_option maxRecDepth 100000
set_option maxHeartbeats 1000000
namespace DL
open PySem PySem.Spec PyProof.Rows L2

def XD (K : PySem.W.Frag) (te : TE) (ρ : Env) (w : Wd) (Q : Dat → Wd → Prop) : Prop := ∀ (σ : L2.St) (H : Hp) (Qv : VK), ER K w H σ ρ → wr K w H →
  (∀ d w' v H', Ext w w' H H' → wr K w' H' → rd K w' H' d v → Q d w' → Qv v H') → te σ H Qv
def TD (K : PySem.W.Frag) (tt : TT) (ρ : Env) (w : Wd) (Q : Bool → Wd → Prop) : Prop := ∀ (σ : L2.St) (H : Hp) (Qv : Bool → Hp → Prop), ER K w H σ ρ → wr K w H →
  (∀ b w' H', Ext w w' H H' → wr K w' H' → Q b w' → Qv b H') → tt σ H Qv
def AD (K : PySem.W.Frag) (ta : TA) (ρ : Env) (w : Wd) (Q : List Dat → Wd → Prop) : Prop := ∀ (σ : L2.St) (H : Hp) (Qv : List V → Hp → Prop), ER K w H σ ρ → wr K w H →
  (∀ ds w' vs H', Ext w w' H H' → wr K w' H' → rds K w' H' ds vs → Q ds w' → Qv vs H') → ta σ H Qv
/-- two values, a value, an argument list -/
def OD (K : PySem.W.Frag) (r : R2) (x y : Dat) (w : Wd) (Q : Dat → Wd → Prop) : Prop := ∀ (H : Hp) (u v : V) (Qv : VK), wr K w H → rd K w H x u → rd K w H y v →
  (∀ d w' z H', Ext w w' H H' → wr K w' H' → rd K w' H' d z → Q d w' → Qv z H') → r u v H Qv
def UD (K : PySem.W.Frag) (r : V → Hp → VK → Prop) (x : Dat) (w : Wd) (Q : Dat → Wd → Prop) : Prop := ∀ (H : Hp) (u : V) (Qv : VK), wr K w H → rd K w H x u →
  (∀ d w' z H', Ext w w' H H' → wr K w' H' → rd K w' H' d z → Q d w' → Qv z H') → r u H Qv
def CD (K : PySem.W.Frag) (r : List V → Hp → VK → Prop) (xs : List Dat) (w : Wd) (Q : Dat → Wd → Prop) : Prop := ∀ (H : Hp) (us : List V) (Qv : VK), wr K w H → rds K w H xs us →
  (∀ d w' z H', Ext w w' H H' → wr K w' H' → rd K w' H' d z → Q d w' → Qv z H') → r us H Qv
def MD (K : PySem.W.Frag) (r : V → List V → Hp → VK → Prop) (x : Dat) (xs : List Dat) (w : Wd) (Q : Dat → Wd → Prop) : Prop := ∀ (H : Hp) (u : V) (us : List V) (Qv : VK), wr K w H → rd K w H x u → rds K w H xs us →
  (∀ d w' z H', Ext w w' H H' → wr K w' H' → rd K w' H' d z → Q d w' → Qv z H') → r u us H Qv

section
variable {K : PySem.W.Frag} {ρ : Env} {w : Wd} {Q Q' : Dat → Wd → Prop} {ta tb te : TE} {x y : Dat} {i j : Int}

theorem xd_mono (h : XD K te ρ w Q) (hq : ∀ d w', Q d w' → Q' d w') : XD K te ρ w Q' := fun σ H Qv a b k => h σ H Qv a b fun d w' v H' e c r q => k d w' v H' e c r (hq d w' q)
theorem td_mono {tt : TT} {Q Q' : Bool → Wd → Prop} (h : TD K tt ρ w Q) (hq : ∀ d w', Q d w' → Q' d w') : TD K tt ρ w Q' := fun σ H Qv a b k => h σ H Qv a b fun d w' H' e c q => k d w' H' e c (hq d w' q)
theorem ad_mono {ta : TA} {Q Q' : List Dat → Wd → Prop} (h : AD K ta ρ w Q) (hq : ∀ d w', Q d w' → Q' d w') : AD K ta ρ w Q' := fun σ H Qv a b k => h σ H Qv a b fun d w' v H' e c r q => k d w' v H' e c r (hq d w' q)

/-- one more step: what follows a value is asked at the extended heap -/
theorem xd_then {te' : TE} {k : V → Hp → VK → Prop} (h : XD K te ρ w fun d w1 => UD K k d w1 Q) : XD K (fun σ H Qv => te σ H fun v H1 => k v H1 Qv) ρ w Q := by
  intro σ H Qv a b kk
  refine h σ H _ a b fun d w1 v H1 e c r q => q H1 v Qv c r fun d2 w2 z H2 e2 c2 r2 q2 => kk d2 w2 z H2 (e.trans e2) c2 r2 q2
theorem xd_var {n : Nat} {d : Dat} (h : ρ[n]? = some (some d)) (q : Q d w) : XD K (tVar n) ρ w Q := fun σ H Qv a b k => by
  obtain ⟨v, h1, h2⟩ := a.2 n d h
  exact ⟨v, h1, k d w v H Ext.refl b h2 q⟩
theorem xd_c {v : V} (q : Q (ofV v) w) : XD K (tC v) ρ w Q := fun σ H Qv a b k => k _ w v H Ext.refl b (rd_ofV v) q
theorem xd_int (q : Q (.int i) w) : XD K (tC (.int i)) ρ w Q := xd_c q
theorem xd_bl {b : Bool} (q : Q (.bl b) w) : XD K (tC (.bl b)) ρ w Q := xd_c q
theorem xd_str {b : Str} (q : Q (.str b) w) : XD K (tC (.str b)) ρ w Q := xd_c q
theorem xd_non (q : Q .non w) : XD K (tC .non) ρ w Q := xd_c q
theorem xd_ty {n : String} (q : Q (.ty n) w) : XD K (tC (.ty n)) ρ w Q := xd_c q
theorem xd_op {r : R2} (h : XD K ta ρ w fun x w1 => XD K tb ρ w1 fun y w2 => OD K r x y w2 Q) : XD K (tOp r ta tb) ρ w Q := by
  intro σ H Qv a b k
  refine h σ H _ a b fun x w1 u H1 e1 c1 r1 h1 => ?_
  refine h1 σ H1 _ (a.ext e1) c1 fun y w2 v H2 e2 c2 r2 h2 => ?_
  exact h2 H2 u v Qv c2 (rd_ext e2 r1) r2 fun d w3 z H3 e3 c3 r3 q => k d w3 z H3 (e1.trans (e2.trans e3)) c3 r3 q
theorem xd_un {r : V → Hp → VK → Prop} (h : XD K ta ρ w fun x w1 => UD K r x w1 Q) : XD K (tUn r ta) ρ w Q := by
  intro σ H Qv a b k
  refine h σ H _ a b fun x w1 u H1 e1 c1 r1 h1 => ?_
  exact h1 H1 u Qv c1 r1 fun d w3 z H3 e3 c3 r3 q => k d w3 z H3 (e1.trans e3) c3 r3 q
theorem xd_if {tt : TT} (h : TD K tt ρ w fun b w1 => (b = true → XD K ta ρ w1 Q) ∧ (b = false → XD K tb ρ w1 Q)) : XD K (tIf tt ta tb) ρ w Q := by
  intro σ H Qv a b k
  refine h σ H _ a b fun c w1 H1 e1 c1 h1 => ?_
  cases c with
  | true => exact h1.1 rfl σ H1 Qv (a.ext e1) c1 fun d w3 z H3 e3 c3 r3 q => k d w3 z H3 (e1.trans e3) c3 r3 q
  | false => exact h1.2 rfl σ H1 Qv (a.ext e1) c1 fun d w3 z H3 e3 c3 r3 q => k d w3 z H3 (e1.trans e3) c3 r3 q
/-- a value given as something else: a mutable list is from now on data -/
theorem xd_frz (h : XD K te ρ w fun d w' => ∃ p ds, d = .obj p ∧ w' p = some ds ∧ Q (.lst ds) (w'.del p)) : XD K te ρ w Q := by
  intro σ H Qv a b k
  refine h σ H _ a b fun d w1 v H1 e1 c1 r1 h1 => ?_
  obtain ⟨p, ds, rfl, hp, q⟩ := h1
  obtain ⟨vs, hv, rv⟩ := c1 p ds hp
  have e2 : Ext w1 (w1.del p) H1 H1 := sub_del.ext
  refine k (.lst ds) _ v H1 (e1.trans e2) (c1.sub sub_del) ⟨p, vs, r1, ⟨?_, hv⟩, rds_ext e2 rv⟩ q
  unfold Wd.del
  rw [if_pos rfl]
/-- part of the world is forgotten -/
theorem xd_sub (h : XD K te ρ w fun d w' => ∃ w2, sub w2 w' ∧ Q d w2) : XD K te ρ w Q := by
  intro σ H Qv a b k
  refine h σ H _ a b fun d w1 v H1 e1 c1 r1 h1 => ?_
  obtain ⟨w2, s, q⟩ := h1
  exact k d w2 v H1 (e1.trans s.ext) (c1.sub s) (rd_ext s.ext r1) q

/-! ### tests -/
theorem td_test {Q : Bool → Wd → Prop} (h : XD K te ρ w fun d w1 => ∃ b, d = .bl b ∧ Q b w1) : TD K (tTest te) ρ w Q := by
  intro σ H Qv a b k
  refine h σ H _ a b fun d w1 u H1 e1 c1 r1 h1 => ?_
  obtain ⟨c, rfl, q⟩ := h1
  exact ⟨c, r1, k c w1 H1 e1 c1 q⟩
theorem td_B {Q : Bool → Wd → Prop} (h : XD K te ρ w fun d w1 => ∃ b, d = .bl b ∧ Q b w1) : TD K (tB te) ρ w Q := td_test h
theorem td_and {t u : TT} {Q : Bool → Wd → Prop} (h : TD K t ρ w fun b w1 => (b = true → TD K u ρ w1 Q) ∧ (b = false → Q false w1)) : TD K (tAnd t u) ρ w Q := by
  intro σ H Qv a b k
  refine h σ H _ a b fun c w1 H1 e1 c1 h1 => ?_
  cases c with
  | true => exact h1.1 rfl σ H1 Qv (a.ext e1) c1 fun d w3 H3 e3 c3 q => k d w3 H3 (e1.trans e3) c3 q
  | false => exact k false w1 H1 e1 c1 (h1.2 rfl)
theorem td_or {t u : TT} {Q : Bool → Wd → Prop} (h : TD K t ρ w fun b w1 => (b = true → Q true w1) ∧ (b = false → TD K u ρ w1 Q)) : TD K (tOr t u) ρ w Q := by
  intro σ H Qv a b k
  refine h σ H _ a b fun c w1 H1 e1 c1 h1 => ?_
  cases c with
  | false => exact h1.2 rfl σ H1 Qv (a.ext e1) c1 fun d w3 H3 e3 c3 q => k d w3 H3 (e1.trans e3) c3 q
  | true => exact k true w1 H1 e1 c1 (h1.1 rfl)
theorem td_not {t : TT} {Q : Bool → Wd → Prop} (h : TD K t ρ w fun b w1 => Q (!b) w1) : TD K (tNot t) ρ w Q := by
  intro σ H Qv a b k
  exact h σ H _ a b fun c w1 H1 e1 c1 h1 => k (!c) w1 H1 e1 c1 h1
theorem td_yes {Q : Bool → Wd → Prop} (h : Q true w) : TD K tYes ρ w Q := fun σ H Qv a b k => k true w H Ext.refl b h
/-- and, or, not as values -/
theorem xd_andV (h : XD K ta ρ w fun d w1 => ∃ b, d = .bl b ∧ (b = true → XD K tb ρ w1 Q) ∧ (b = false → Q (.bl false) w1)) : XD K (tAndV ta tb) ρ w Q := by
  intro σ H Qv a b k
  refine h σ H _ a b fun d w1 u H1 e1 c1 r1 h1 => ?_
  obtain ⟨c, rfl, h2, h3⟩ := h1
  refine ⟨c, r1, ?_⟩
  cases c with
  | true => exact h2 rfl σ H1 Qv (a.ext e1) c1 fun d w3 z H3 e3 c3 r3 q => k d w3 z H3 (e1.trans e3) c3 r3 q
  | false => exact k (.bl false) w1 _ H1 e1 c1 rfl (h3 rfl)
theorem xd_orV (h : XD K ta ρ w fun d w1 => ∃ b, d = .bl b ∧ (b = true → Q (.bl true) w1) ∧ (b = false → XD K tb ρ w1 Q)) : XD K (tOrV ta tb) ρ w Q := by
  intro σ H Qv a b k
  refine h σ H _ a b fun d w1 u H1 e1 c1 r1 h1 => ?_
  obtain ⟨c, rfl, h2, h3⟩ := h1
  refine ⟨c, r1, ?_⟩
  cases c with
  | false => exact h3 rfl σ H1 Qv (a.ext e1) c1 fun d w3 z H3 e3 c3 r3 q => k d w3 z H3 (e1.trans e3) c3 r3 q
  | true => exact k (.bl true) w1 _ H1 e1 c1 rfl (h2 rfl)
theorem xd_notV (h : XD K ta ρ w fun d w1 => ∃ b, d = .bl b ∧ Q (.bl (!b)) w1) : XD K (tNotV ta) ρ w Q := by
  intro σ H Qv a b k
  refine h σ H _ a b fun d w1 u H1 e1 c1 r1 h1 => ?_
  obtain ⟨c, rfl, q⟩ := h1
  exact ⟨c, r1, k (.bl (!c)) w1 _ H1 e1 c1 rfl q⟩

/-! ### arguments, displays, calls -/
theorem ad_nil {Q : List Dat → Wd → Prop} (q : Q [] w) : AD K tNil ρ w Q := fun σ H Qv a b k => k [] w [] H Ext.refl b rfl q
theorem ad_cons {tr : TA} {Q : List Dat → Wd → Prop} (h : XD K te ρ w fun d w1 => AD K tr ρ w1 fun ds w2 => Q (d :: ds) w2) : AD K (tCons te tr) ρ w Q := by
  intro σ H Qv a b k
  refine h σ H _ a b fun d w1 u H1 e1 c1 r1 h1 => ?_
  refine h1 σ H1 _ (a.ext e1) c1 fun ds w2 us H2 e2 c2 r2 q => ?_
  exact k (_ :: ds) w2 _ H2 (e1.trans e2) c2 ⟨u, us, rfl, rd_ext e2 r1, r2⟩ q
theorem xd_tup {ta : TA} (h : AD K ta ρ w fun ds w1 => ds.length ≤ sizeLine ∧ Q (.tup ds) w1) : XD K (tTup ta) ρ w Q := by
  intro σ H Qv a b k
  refine h σ H _ a b fun ds w1 us H1 e1 c1 r1 h1 => ⟨by rw [← rds_length r1]; exact h1.1, fun p hp => ?_⟩
  have e2 : Ext w1 w1 H1 (upd H1 p (.tup us)) := Ext.new hp
  exact k (.tup ds) w1 _ _ (e1.trans e2) (c1.new hp) ⟨p, us, rfl, ⟨c1.dom hp, upd_same⟩, rds_ext e2 r1⟩ h1.2
/-- a new list, mutable -/
theorem xd_lst {ta : TA} (h : AD K ta ρ w fun ds w1 => ds.length ≤ sizeLine ∧ ∀ p, w1 p = none → Q (.obj p) (w1.put p ds)) : XD K (tLst ta) ρ w Q := by
  intro σ H Qv a b k
  refine h σ H _ a b fun ds w1 us H1 e1 c1 r1 h1 => ⟨by rw [← rds_length r1]; exact h1.1, fun p hp => ?_⟩
  have e2 : Ext w1 (w1.put p ds) H1 (upd H1 p (.lst us)) := Ext.newL hp
  exact k (.obj p) _ _ _ (e1.trans e2) (c1.put e2 r1) rfl (h1.2 p (c1.dom hp))
/-- .. as data -/
theorem xd_lstF {ta : TA} (h : AD K ta ρ w fun ds w1 => ds.length ≤ sizeLine ∧ Q (.lst ds) w1) : XD K (tLst ta) ρ w Q := by
  refine xd_frz (xd_lst (ad_mono h fun ds w1 q => ⟨q.1, fun p hp => ⟨p, ds, rfl, Wd.put_same, ?_⟩⟩))
  rw [Wd.del_put hp]
  exact q.2
theorem xd_cb {r : List V → Hp → VK → Prop} {ta : TA} (h : AD K ta ρ w fun ds w1 => CD K r ds w1 Q) : XD K (tCB r ta) ρ w Q := by
  intro σ H Qv a b k
  refine h σ H _ a b fun ds w1 us H1 e1 c1 r1 h1 => ?_
  exact h1 H1 us Qv c1 r1 fun d w3 z H3 e3 c3 r3 q => k d w3 z H3 (e1.trans e3) c3 r3 q
/-- what a def does, at data -/
abbrev FS := List Dat → Wd → (Dat → Wd → Prop) → Prop
def spOf (K : PySem.W.Frag) (F : FS) : Sp := fun vs H Qv _ => ∃ (w : Wd) (ds : List Dat) (P : Dat → Wd → Prop), wr K w H ∧ rds K w H ds vs ∧ F ds w P ∧
  ∀ d w' v H', Ext w w' H H' → wr K w' H' → rd K w' H' d v → P d w' → Qv v H'
theorem xd_call {F : FS} {E : XK} {ta : TA} (h : AD K ta ρ w fun ds w1 => F ds w1 Q) : XD K (tCall (spOf K F) [] E ta) ρ w Q := by
  intro σ H Qv a b k
  refine h σ H _ a b fun ds w1 us H1 e1 c1 r1 h1 => ?_
  rw [List.append_nil]
  exact ⟨w1, ds, Q, c1, r1, h1, fun d w3 z H3 e3 c3 r3 q => k d w3 z H3 (e1.trans e3) c3 r3 q⟩
theorem xd_bm {r : V → List V → Hp → VK → Prop} {T : String} {ta : TA} (h : XD K te ρ w fun x w1 => (∀ H v, wr K w1 H → rd K w1 H x v → tyV K T v H) ∧ AD K ta ρ w1 fun ds w2 => MD K r x ds w2 Q) : XD K (tBM K T r te ta) ρ w Q := by
  intro σ H Qv a b k
  refine h σ H _ a b fun x w1 u H1 e1 c1 r1 h1 => ⟨h1.1 H1 u c1 r1, ?_⟩
  refine h1.2 σ H1 _ (a.ext e1) c1 fun ds w2 us H2 e2 c2 r2 q => ?_
  exact q H2 u us Qv c2 (rd_ext e2 r1) r2 fun d w3 z H3 e3 c3 r3 q => k d w3 z H3 (e1.trans (e2.trans e3)) c3 r3 q
theorem xd_bm0 {r : V → List V → Hp → VK → Prop} {T : String} (h : XD K te ρ w fun x w1 => (∀ H v, wr K w1 H → rd K w1 H x v → tyV K T v H) ∧ MD K r x [] w1 Q) : XD K (tBM0 K T r te) ρ w Q := by
  intro σ H Qv a b k
  refine h σ H _ a b fun x w1 u H1 e1 c1 r1 h1 => ⟨h1.1 H1 u c1 r1, ?_⟩
  exact h1.2 H1 u [] Qv c1 r1 rfl fun d w3 z H3 e3 c3 r3 q => k d w3 z H3 (e1.trans e3) c3 r3 q

/-! ### values: ints -/
theorem od_pure {r : R2} {z : V} (hr : ∀ (H : Hp) (u v : V) (Qv : VK), wr K w H → rd K w H x u → rd K w H y v → Qv z H → r u v H Qv) (q : Q (ofV z) w) : OD K r x y w Q :=
  fun H u v Qv c r1 r2 k => hr H u v Qv c r1 r2 (k _ w _ H Ext.refl c (rd_ofV z) q)
theorem od_I0 {g : Int → Int → V} (q : Q (ofV (g i j)) w) : OD K (rI0 g) (.int i) (.int j) w Q := od_pure (fun _ _ _ _ _ a b z => ⟨i, j, a, b, z⟩) q
theorem od_I {C : Int → Int → Prop} {g : Int → Int → V} (hc : C i j) (q : Q (ofV (g i j)) w) : OD K (rI C g) (.int i) (.int j) w Q := od_pure (fun _ _ _ _ _ a b z => ⟨i, j, a, b, hc, z⟩) q
theorem ud_pure {r : V → Hp → VK → Prop} {z : V} (hr : ∀ (H : Hp) (u : V) (Qv : VK), wr K w H → rd K w H x u → Qv z H → r u H Qv) (q : Q (ofV z) w) : UD K r x w Q :=
  fun H u Qv c r1 k => hr H u Qv c r1 (k _ w _ H Ext.refl c (rd_ofV z) q)
theorem ud_U {g : Int → V} (q : Q (ofV (g i)) w) : UD K (rU g) (.int i) w Q := ud_pure (fun _ _ _ _ a z => ⟨i, a, z⟩) q
theorem cd_pure {r : List V → Hp → VK → Prop} {xs : List Dat} {z : V} (hr : ∀ (H : Hp) (u : List V) (Qv : VK), wr K w H → rds K w H xs u → Qv z H → r u H Qv) (q : Q (ofV z) w) : CD K r xs w Q :=
  fun H u Qv c r1 k => hr H u Qv c r1 (k _ w _ H Ext.refl c (rd_ofV z) q)
theorem od_eqI (q : Q (.bl (decide (i = j))) w) : OD K rEq (.int i) (.int j) w Q := od_pure (z := .bl (decide (i = j))) (fun _ u v _ _ a b z => by
  rw [show u = V.int i from a, show v = V.int j from b]
  refine ⟨rfl, ?_⟩
  have e : decide (V.int i = V.int j) = decide (i = j) := by
    by_cases h : i = j
    · subst h; rw [decide_eq_true rfl, decide_eq_true rfl]
    · rw [decide_eq_false h, decide_eq_false fun z => h (V.int.inj z)]
  rw [e]
  exact z) q
theorem od_neI (q : Q (.bl (!decide (i = j))) w) : OD K rNe (.int i) (.int j) w Q := od_pure (z := .bl (!decide (i = j))) (fun _ u v _ _ a b z => by
  rw [show u = V.int i from a, show v = V.int j from b]
  refine ⟨rfl, ?_⟩
  have e : decide (V.int i = V.int j) = decide (i = j) := by
    by_cases h : i = j
    · subst h; rw [decide_eq_true rfl, decide_eq_true rfl]
    · rw [decide_eq_false h, decide_eq_false fun z => h (V.int.inj z)]
  rw [e]
  exact z) q
theorem od_add (q : Q (.int (i + j)) w) : OD K (rI0 fun i j => .int (i + j)) (.int i) (.int j) w Q := od_I0 q
theorem od_sub (q : Q (.int (i - j)) w) : OD K (rI0 fun i j => .int (i - j)) (.int i) (.int j) w Q := od_I0 q
theorem od_lt (q : Q (.bl (decide (i < j))) w) : OD K (rI0 fun i j => .bl (decide (i < j))) (.int i) (.int j) w Q := od_I0 q
theorem od_le (q : Q (.bl (decide (i ≤ j))) w) : OD K (rI0 fun i j => .bl (decide (i ≤ j))) (.int i) (.int j) w Q := od_I0 q
theorem od_gt (q : Q (.bl (decide (j < i))) w) : OD K (rI0 fun i j => .bl (decide (j < i))) (.int i) (.int j) w Q := od_I0 q
theorem od_ge (q : Q (.bl (decide (j ≤ i))) w) : OD K (rI0 fun i j => .bl (decide (j ≤ i))) (.int i) (.int j) w Q := od_I0 q
theorem od_mulW (hc : CMulW i j) (q : Q (.int (i * j)) w) : OD K (rI CMulW fun i j => .int (i * j)) (.int i) (.int j) w Q := od_I hc q
theorem od_mul (hc : CMul i j) (q : Q (.int (i * j)) w) : OD K (rI CMul fun i j => .int (i * j)) (.int i) (.int j) w Q := od_I hc q
theorem od_fdivN (hc : CDivN i j) (q : Q (.int (i.fdiv j)) w) : OD K (rI CDivN fun i j => .int (i.fdiv j)) (.int i) (.int j) w Q := od_I hc q
theorem od_modN (hc : j ≠ 0) (q : Q (.int (i.fmod j)) w) : OD K (rI (fun _ j => j ≠ 0) fun i j => .int (i.fmod j)) (.int i) (.int j) w Q := od_I hc q
theorem ud_neg (q : Q (.int (-i)) w) : UD K (rU fun i => .int (-i)) (.int i) w Q := ud_U q

/-! ### sequences -/
/-- what a list or tuple holds -/
inductive Sq (w : Wd) : Dat → List Dat → Prop where
  | lst (ds : List Dat) : Sq w (.lst ds) ds
  | slst (ds : List Dat) : Sq w (.slst ds) ds
  | tup (ds : List Dat) : Sq w (.tup ds) ds
  | obj {p : Addr} {ds : List Dat} (h : w p = some ds) : Sq w (.obj p) ds
inductive SqD (w : Wd) : Dat → List Dat → Prop where
  | lst (ds : List Dat) : SqD w (.lst ds) ds
  | slst (ds : List Dat) : SqD w (.slst ds) ds
  | obj {p : Addr} {ds : List Dat} (h : w p = some ds) : SqD w (.obj p) ds
theorem SqD.sq {ds : List Dat} (h : SqD w x ds) : Sq w x ds := by
  cases h with
  | lst => exact .lst _
  | slst => exact .slst _
  | obj h => exact .obj h
theorem Sq.seq {H : Hp} {v : V} {ds : List Dat} (h : Sq w x ds) (c : wr K w H) (r : rd K w H x v) : ∃ p vs, v = .ref p ∧ (SqL K H p vs ∨ SqT K H p vs) ∧ rds K w H ds vs := by
  cases h with
  | lst =>
    obtain ⟨p, vs, e, ⟨_, h⟩, r⟩ := r
    exact ⟨p, vs, e, .inl (SqL.of h), r⟩
  | slst =>
    obtain ⟨p, vs, e, h, r⟩ := r
    refine ⟨p, vs, e, .inl ?_, r⟩
    rcases h with ⟨_, h⟩ | h
    · exact .inl h
    · exact .inr h
  | tup =>
    obtain ⟨p, vs, e, ⟨_, h⟩, r⟩ := r
    exact ⟨p, vs, e, .inr (SqT.of h), r⟩
  | obj h =>
    obtain ⟨vs, h1, h2⟩ := c _ _ h
    exact ⟨_, vs, r, .inl (SqL.of h1), h2⟩
theorem SqD.seq {H : Hp} {v : V} {ds : List Dat} (h : SqD w x ds) (c : wr K w H) (r : rd K w H x v) : ∃ p vs, v = .ref p ∧ SqL K H p vs ∧ rds K w H ds vs := by
  cases h with
  | lst =>
    obtain ⟨p, vs, e, ⟨_, h⟩, r⟩ := r
    exact ⟨p, vs, e, SqL.of h, r⟩
  | slst =>
    obtain ⟨p, vs, e, h, r⟩ := r
    refine ⟨p, vs, e, ?_, r⟩
    rcases h with ⟨_, h⟩ | h
    · exact .inl h
    · exact .inr h
  | obj h =>
    obtain ⟨vs, h1, h2⟩ := c _ _ h
    exact ⟨_, vs, r, SqL.of h1, h2⟩
/-- .. a list that is no script -/
inductive SqH (w : Wd) : Dat → List Dat → Prop where
  | lst (ds : List Dat) : SqH w (.lst ds) ds
  | obj {p : Addr} {ds : List Dat} (h : w p = some ds) : SqH w (.obj p) ds
theorem SqH.seq {H : Hp} {v : V} {ds : List Dat} (h : SqH w x ds) (c : wr K w H) (r : rd K w H x v) : ∃ p vs, v = .ref p ∧ H p = some (.lst vs) ∧ rds K w H ds vs := by
  cases h with
  | lst =>
    obtain ⟨p, vs, e, ⟨_, h⟩, r⟩ := r
    exact ⟨p, vs, e, h, r⟩
  | obj h =>
    obtain ⟨vs, h1, h2⟩ := c _ _ h
    exact ⟨_, vs, r, h1, h2⟩
theorem atI_rds {H : Hp} {ds : List Dat} {vs : List V} {d : Dat} (r : rds K w H ds vs) (h : atI ds i = some d) : ∃ v, atI vs i = some v ∧ rd K w H d v := by
  unfold atI at h ⊢
  rw [← rds_length r]
  cases q : ixN ds.length i with
  | none => rw [q] at h; cases h
  | some j =>
    rw [q] at h
    exact rds_get r h
theorem od_ix {ds : List Dat} {d : Dat} (s : Sq w x ds) (h : atI ds i = some d) (q : Q d w) : OD K (rIx K) x (.int i) w Q := by
  intro H u v Qv c r1 r2 k
  obtain ⟨p, vs, rfl, hs, r⟩ := s.seq c r1
  obtain ⟨z, hz, rz⟩ := atI_rds r h
  have e := k d w z H Ext.refl c rz q
  rcases hs with hs | hs
  · exact .inl ⟨p, vs, i, z, rfl, r2, hs, hz, e⟩
  · exact .inr (.inl ⟨p, vs, i, z, rfl, r2, hs, hz, e⟩)
theorem od_ixStr {z : Str} {c : Nat} (hl : z.length ≤ sizeLine) (h : atI z.cps.toList i = some c) (q : Q (.str ⟨#[c]⟩) w) : OD K (rIx K) (.str z) (.int i) w Q :=
  od_pure (z := .str ⟨#[c]⟩) (fun _ _ _ _ _ a b e => .inr (.inr ⟨z, i, c, a, b, hl, h, e⟩)) q
theorem od_ixL {ds : List Dat} {d : Dat} (s : SqD w x ds) (h : atI ds i = some d) (q : Q d w) : OD K (rIxL K) x (.int i) w Q := by
  intro H u v Qv c r1 r2 k
  obtain ⟨p, vs, rfl, hs, r⟩ := s.seq c r1
  obtain ⟨z, hz, rz⟩ := atI_rds r h
  exact ⟨p, vs, i, z, rfl, r2, hs, hz, k d w z H Ext.refl c rz q⟩
theorem cd_len {ds : List Dat} (s : Sq w x ds) (q : Q (.int ds.length) w) : CD K (fun xs H Qv => ∃ p ys, xs = [V.ref p] ∧ (SqL K H p ys ∨ SqT K H p ys) ∧ Qv (.int ys.length) H) [x] w Q := by
  intro H us Qv c r k
  obtain ⟨v, r', rfl, r1, rn⟩ := r
  obtain ⟨p, vs, rfl, hs, r2⟩ := s.seq c r1
  rw [show r' = [] from rn]
  refine ⟨p, vs, rfl, hs, k (.int ds.length) w _ H Ext.refl c ?_ q⟩
  rw [rds_length r2]
  rfl
theorem cd_list {ds : List Dat} (s : Sq w x ds) (q : ∀ p, w p = none → Q (.obj p) (w.put p ds)) : CD K (fun xs H Qv => ∃ p ys, xs = [V.ref p] ∧ (SqL K H p ys ∨ SqT K H p ys) ∧ ∀ l, H l = none → Qv (.ref l) (upd H l (.lst ys))) [x] w Q := by
  intro H us Qv c r k
  obtain ⟨v, r', rfl, r1, rn⟩ := r
  obtain ⟨p, vs, rfl, hs, r2⟩ := s.seq c r1
  rw [show r' = [] from rn]
  refine ⟨p, vs, rfl, hs, fun l hl => ?_⟩
  have e2 : Ext w (w.put l ds) H (upd H l (.lst vs)) := Ext.newL hl
  exact k (.obj l) _ _ _ e2 (c.put e2 r2) rfl (q l (c.dom hl))
theorem cd_tupleL {ds : List Dat} (s : SqD w x ds) (q : Q (.tup ds) w) : CD K (fun xs H Qv => ∃ p ys, xs = [V.ref p] ∧ ((SqL K H p ys ∧ ∀ l, H l = none → Qv (.ref l) (upd H l (.tup ys))) ∨ (SqT K H p ys ∧ Qv (.ref p) H))) [x] w Q := by
  intro H us Qv c r k
  obtain ⟨v, r', rfl, r1, rn⟩ := r
  obtain ⟨p, vs, rfl, hs, r2⟩ := s.seq c r1
  rw [show r' = [] from rn]
  refine ⟨p, vs, rfl, .inl ⟨hs, fun l hl => ?_⟩⟩
  have e2 : Ext w w H (upd H l (.tup vs)) := Ext.new hl
  exact k (.tup ds) _ _ _ e2 (c.new hl) ⟨l, vs, rfl, ⟨c.dom hl, upd_same⟩, rds_ext e2 r2⟩ q
theorem od_cat {ds es : List Dat} (s : SqH w x ds) (s' : SqH w y es) (hl : ds.length + es.length ≤ sizeLine) (q : ∀ p, w p = none → Q (.obj p) (w.put p (ds ++ es))) : OD K rCat x y w Q := by
  intro H u v Qv c r1 r2 k
  obtain ⟨p, vs, rfl, hs, ra⟩ := s.seq c r1
  obtain ⟨p', vs', rfl, hs', rb⟩ := s'.seq c r2
  refine ⟨p, p', vs, vs', rfl, rfl, hs, hs', by rw [← rds_length ra, ← rds_length rb]; exact hl, fun l hl => ?_⟩
  have r3 := rds_append ra rb
  have e2 : Ext w (w.put l (ds ++ es)) H (upd H l (.lst (vs ++ vs'))) := Ext.newL hl
  exact k (.obj l) _ _ _ e2 (c.put e2 r3) rfl (q l (c.dom hl))
theorem cd_max2 (q : Q (.int (if j > i then j else i)) w) : CD K (fun xs H Qv => ∃ i j, xs = [V.int i, V.int j] ∧ Qv (.int (if j > i then j else i)) H) [.int i, .int j] w Q :=
  cd_pure (z := .int (if j > i then j else i)) (fun _ u _ _ r e => by
    obtain ⟨_, _, rfl, rfl, _, _, rfl, rfl, rfl⟩ := r
    exact ⟨i, j, rfl, e⟩) q
theorem cd_abs (q : Q (.int (if i < 0 then -i else i)) w) : CD K (fun xs H Qv => ∃ i, xs = [V.int i] ∧ Qv (.int (if i < 0 then -i else i)) H) [.int i] w Q :=
  cd_pure (z := .int (if i < 0 then -i else i)) (fun _ u _ _ r e => by
    obtain ⟨_, _, rfl, rfl, rfl⟩ := r
    exact ⟨i, rfl, e⟩) q
theorem cd_int1 (q : Q (.int i) w) : CD K (fun xs H Qv => (∃ i, xs = [V.int i] ∧ Qv (.int i) H) ∨ ∃ k, xs = [V.bl k] ∧ Qv (.int (if k then 1 else 0)) H) [.int i] w Q :=
  cd_pure (z := .int i) (fun _ u _ _ r e => by
    obtain ⟨_, _, rfl, rfl, rfl⟩ := r
    exact .inl ⟨i, rfl, e⟩) q
theorem cd_intB {b : Bool} (q : Q (.int (if b then 1 else 0)) w) : CD K (fun xs H Qv => (∃ i, xs = [V.int i] ∧ Qv (.int i) H) ∨ ∃ k, xs = [V.bl k] ∧ Qv (.int (if k then 1 else 0)) H) [.bl b] w Q :=
  cd_pure (z := .int (if b then 1 else 0)) (fun _ u _ _ r e => by
    obtain ⟨_, _, rfl, rfl, rfl⟩ := r
    exact .inr ⟨b, rfl, e⟩) q
theorem cd_sum {ns : List Int} (s : SqD w x (ns.map .int)) (q : Q (.int ns.sum) w) : CD K (rSum K) [x] w Q :=
  cd_pure (z := .int ns.sum) (fun _ u _ c r e => by
    obtain ⟨v, _, rfl, r1, rfl⟩ := r
    obtain ⟨p, vs, rfl, hs, r2⟩ := s.seq c r1
    rw [rds_ints r2] at hs
    exact ⟨p, ns, rfl, hs, e⟩) q
theorem cd_all {bs : List Bool} (s : SqD w x (bs.map .bl)) (q : Q (.bl (bs.all id)) w) : CD K (rAll K) [x] w Q :=
  cd_pure (z := .bl (bs.all id)) (fun _ u _ c r e => by
    obtain ⟨v, _, rfl, r1, rfl⟩ := r
    obtain ⟨p, vs, rfl, hs, r2⟩ := s.seq c r1
    rw [rds_bls r2] at hs
    exact ⟨p, bs, rfl, hs, e⟩) q
theorem cd_any {bs : List Bool} (s : SqD w x (bs.map .bl)) (q : Q (.bl (bs.any id)) w) : CD K (rAny K) [x] w Q :=
  cd_pure (z := .bl (bs.any id)) (fun _ u _ c r e => by
    obtain ⟨v, _, rfl, r1, rfl⟩ := r
    obtain ⟨p, vs, rfl, hs, r2⟩ := s.seq c r1
    rw [rds_bls r2] at hs
    exact ⟨p, bs, rfl, hs, e⟩) q
/-- a list's methods -/
theorem ty_list {ds : List Dat} (s : SqD w x ds) : ∀ H v, wr K w H → rd K w H x v → tyV K "list" v H := fun H v c r => by
  obtain ⟨p, vs, rfl, hs, _⟩ := s.seq c r
  exact .inl ⟨rfl, vs, hs⟩
theorem md_append {p : Addr} {ds : List Dat} (h : w p = some ds) (hl : ds.length < sizeLine) (q : Q .non (w.put p (ds ++ [y]))) : MD K rAppend (.obj p) [y] w Q := by
  intro H u us Qv c r1 r2 k
  obtain ⟨v, _, rfl, r3, rfl⟩ := r2
  obtain ⟨vs, hv, rv⟩ := c p ds h
  refine ⟨p, vs, v, r1, rfl, hv, by rw [← rds_length rv]; exact hl, ?_⟩
  have r4 : rds K w H (ds ++ [y]) (vs ++ [v]) := rds_append rv ⟨v, [], rfl, r3, rfl⟩
  have e2 : Ext w (w.put p (ds ++ [y])) H (upd H p (.lst (vs ++ [v]))) := Ext.mut (by rw [h]; simp)
  exact k .non _ _ _ e2 (c.put e2 r4) rfl q
theorem md_pop {p : Addr} {ds : List Dat} {d : Dat} (h : w p = some ds) (hd : ds[ds.length - 1]? = some d) (q : Q d (w.put p ds.dropLast)) : MD K rPop (.obj p) [] w Q := by
  intro H u us Qv c r1 r2 k
  obtain ⟨vs, hv, rv⟩ := c p ds h
  obtain ⟨v, h3, r3⟩ := rds_get rv hd
  refine ⟨p, vs, v, r1, r2, hv, by rw [← rds_length rv]; exact h3, ?_⟩
  have e2 : Ext w (w.put p ds.dropLast) H (upd H p (.lst vs.dropLast)) := Ext.mut (by rw [h]; simp)
  exact k _ _ _ _ e2 (c.put e2 (rds_dropLast rv)) (rd_ext e2 r3) q
theorem md_popAt {p : Addr} {ds : List Dat} {d : Dat} {n : Nat} (h : w p = some ds) (h1 : -(2 ^ 63) ≤ i) (h2 : i < 2 ^ 63) (hn : seqIndex? i ds.length = some n) (hd : ds[n]? = some d) (q : Q d (w.put p (ds.eraseIdx n))) : MD K rPopAt (.obj p) [.int i] w Q := by
  intro H u us Qv c r1 r2 k
  obtain ⟨_, _, rfl, rfl, rfl⟩ := r2
  obtain ⟨vs, hv, rv⟩ := c p ds h
  obtain ⟨v, h3, r3⟩ := rds_get rv hd
  refine ⟨p, vs, i, n, v, r1, rfl, hv, h1, h2, by rw [← rds_length rv]; exact hn, h3, ?_⟩
  have e2 : Ext w (w.put p (ds.eraseIdx n)) H (upd H p (.lst (vs.eraseIdx n))) := Ext.mut (by rw [h]; simp)
  exact k _ _ _ _ e2 (c.put e2 (rds_erase n rv)) (rd_ext e2 r3) q
/-- a slice of a list -/
def PD (K : PySem.W.Frag) (t : TO) (ρ : Env) (w : Wd) (Q : Option Int → Wd → Prop) : Prop := ∀ (σ : L2.St) (H : Hp) (Qv : Option Int → Hp → Prop), ER K w H σ ρ → wr K w H →
  (∀ o w' H', Ext w w' H H' → wr K w' H' → Q o w' → Qv o H') → t σ H Qv
theorem pd_none {Q : Option Int → Wd → Prop} (q : Q none w) : PD K tNoPart ρ w Q := fun σ H Qv a b k => k none w H Ext.refl b q
theorem pd_some {Q : Option Int → Wd → Prop} (h : XD K te ρ w fun d w1 => ∃ i, d = .int i ∧ Q (some i) w1) : PD K (tPart te) ρ w Q := by
  intro σ H Qv a b k
  refine h σ H _ a b fun d w1 u H1 e1 c1 r1 h1 => ?_
  obtain ⟨i, rfl, q⟩ := h1
  exact ⟨i, r1, k (some i) w1 H1 e1 c1 q⟩
def cutD (ds : List Dat) (lo hi : Option Int) : List Dat := (ds.drop (HT.sIx ds.length 0 lo)).take (HT.sIx ds.length ds.length hi - HT.sIx ds.length 0 lo)
theorem xd_slice {tl th : TO} (h : XD K te ρ w fun d w1 => PD K tl ρ w1 fun lo w2 => PD K th ρ w2 fun hi w3 => ∃ ds, SqD w3 d ds ∧ ∀ p, w3 p = none → Q (.obj p) (w3.put p (cutD ds lo hi))) : XD K (tSl (rSlL K) te tl th) ρ w Q := by
  intro σ H Qv a b k
  refine h σ H _ a b fun d w1 u H1 e1 c1 r1 h1 => ?_
  refine h1 σ H1 _ (a.ext e1) c1 fun lo w2 H2 e2 c2 h2 => ?_
  refine h2 σ H2 _ (a.ext (e1.trans e2)) c2 fun hi w3 H3 e3 c3 h3 => ?_
  obtain ⟨ds, s, q⟩ := h3
  obtain ⟨p, vs, rfl, hs, r⟩ := s.seq c3 (rd_ext (e2.trans e3) r1)
  refine ⟨p, vs, rfl, hs, fun l hl => ?_⟩
  have r5 : rds K w3 H3 (cutD ds lo hi) (cutV vs lo hi) := by
    unfold cutD cutV
    rw [rds_length r]
    exact rds_take _ (rds_drop _ r)
  have e4 : Ext w3 (w3.put l (cutD ds lo hi)) H3 (upd H3 l (.lst (cutV vs lo hi))) := Ext.newL hl
  exact k (.obj l) _ _ _ (e1.trans (e2.trans (e3.trans e4))) (c3.put e4 r5) rfl (q l (c3.dom hl))
end
end DL
set_option Elab.async false
set_option linter.all false
set_option maxRecDepth 100000
set_option maxHeartbeats 1000000
namespace DL
open PySem PySem.Spec PyProof.Rows L2

/-! ### statements at data -/
structure Post where
  nx : Env → Wd → Prop
  rt : Dat → Wd → Prop
  bk : Env → Wd → Prop := fun _ _ => False
  ct : Env → Wd → Prop := fun _ _ => False
structure Sat (K : PySem.W.Frag) (w : Wd) (H : Hp) (Po : Post) (De : Ends) : Prop where
  nx : ∀ ρ' w' σ' H', Ext w w' H H' → wr K w' H' → ER K w' H' σ' ρ' → Po.nx ρ' w' → De.nx σ' H'
  rt : ∀ d w' v H', Ext w w' H H' → wr K w' H' → rd K w' H' d v → Po.rt d w' → De.rt v H'
  bk : ∀ ρ' w' σ' H', Ext w w' H H' → wr K w' H' → ER K w' H' σ' ρ' → Po.bk ρ' w' → De.bk σ' H'
  ct : ∀ ρ' w' σ' H', Ext w w' H H' → wr K w' H' → ER K w' H' σ' ρ' → Po.ct ρ' w' → De.ct σ' H'
theorem Sat.ext {K : PySem.W.Frag} {w w1 : Wd} {H H1 : Hp} {Po : Post} {De : Ends} (S : Sat K w H Po De) (e : Ext w w1 H H1) : Sat K w1 H1 Po De :=
  ⟨fun ρ' w' σ' H' e' c r q => S.nx ρ' w' σ' H' (e.trans e') c r q, fun d w' v H' e' c r q => S.rt d w' v H' (e.trans e') c r q,
   fun ρ' w' σ' H' e' c r q => S.bk ρ' w' σ' H' (e.trans e') c r q, fun ρ' w' σ' H' e' c r q => S.ct ρ' w' σ' H' (e.trans e') c r q⟩
def SD (K : PySem.W.Frag) (ts : TS) (ρ : Env) (w : Wd) (Po : Post) : Prop := ∀ (σ : L2.St) (H : Hp) (De : Ends), ER K w H σ ρ → wr K w H → Sat K w H Po De → ts De σ H
/-- a target -/
def GD (K : PySem.W.Frag) (g : TG) (d : Dat) (ρ : Env) (w : Wd) (Q : Env → Wd → Prop) : Prop := ∀ (σ : L2.St) (H : Hp) (v : V) (Qs : L2.St → Hp → Prop), ER K w H σ ρ → wr K w H → rd K w H d v →
  (∀ ρ' w' σ' H', Ext w w' H H' → wr K w' H' → ER K w' H' σ' ρ' → Q ρ' w' → Qs σ' H') → g v σ H Qs

section
variable {K : PySem.W.Frag} {ρ : Env} {w : Wd} {Po : Post} {te ta tb to ti : TE} {t u : TS} {g : TG} {n m : Nat} {d : Dat}

theorem gd_name {Q : Env → Wd → Prop} (q : Q (ρ.set n (some d)) w) : GD K (gName n) d ρ w Q := fun σ H v Qs a b r k => k _ w _ H Ext.refl b (a.set r) q
theorem gd_tup2 {Q : Env → Wd → Prop} {x y : Dat} (h : d = .tup [x, y]) (q : Q ((ρ.set n (some x)).set m (some y)) w) : GD K (gTup K 2 (gCons (gName n) (gCons (gName m) gNil))) d ρ w Q := by
  intro σ H v Qs a b r k
  subst h
  obtain ⟨p, vs, rfl, ⟨_, hv⟩, u1, r1, rfl, h1, u2, r2, rfl, h2, rfl⟩ := r
  exact ⟨p, _, rfl, SqT.of hv, rfl, u1, _, rfl, u2, _, rfl, rfl, k _ w _ H Ext.refl b ((a.set h1).set h2) q⟩
theorem gd_unl2 {Q : Env → Wd → Prop} {x y : Dat} (h : SqD w d [x, y]) (q : Q ((ρ.set n (some x)).set m (some y)) w) : GD K (gUnl K 2 (gCons (gName n) (gCons (gName m) gNil))) d ρ w Q := by
  intro σ H v Qs a b r k
  obtain ⟨p, vs, rfl, hv, u1, r1, rfl, h1, u2, r2, rfl, h2, rfl⟩ := h.seq b r
  exact ⟨p, _, rfl, hv, rfl, u1, _, rfl, u2, _, rfl, rfl, k _ w _ H Ext.refl b ((a.set h1).set h2) q⟩
theorem gd_sub {Q : Env → Wd → Prop} (h : XD K to ρ w fun o w1 => XD K ti ρ w1 fun ix w2 => ∃ p ds k j, o = .obj p ∧ ix = .int k ∧ w2 p = some ds ∧ ixN ds.length k = some j ∧ Q ρ (w2.put p (ds.set j d))) : GD K (gSub to ti rSetL) d ρ w Q := by
  intro σ H v Qs a b r kk
  refine h σ H _ a b fun o w1 u H1 e1 c1 r1 h1 => ?_
  refine h1 σ H1 _ (a.ext e1) c1 fun ix w2 u2 H2 e2 c2 r2 h2 => ?_
  obtain ⟨p, ds, k, j, rfl, rfl, hp, hj, q⟩ := h2
  obtain ⟨vs, hv, rv⟩ := c2 p ds hp
  refine ⟨p, vs, k, j, r1, r2, hv, by rw [← rds_length rv]; exact hj, ?_⟩
  have e3 : Ext w2 (w2.put p (ds.set j d)) H2 (upd H2 p (.lst (vs.set j v))) := Ext.mut (by rw [hp]; simp)
  have e4 := e1.trans (e2.trans e3)
  exact kk ρ _ σ _ e4 (c2.put e3 (rds_set j rv (rd_ext (e1.trans e2) r))) (a.ext e4) q

theorem sd_next (q : Po.nx ρ w) : SD K tNext ρ w Po := fun σ H De a b S => S.nx ρ w σ H Ext.refl b a q
theorem sd_break (q : Po.bk ρ w) : SD K tBreak ρ w Po := fun σ H De a b S => S.bk ρ w σ H Ext.refl b a q
theorem sd_cont (q : Po.ct ρ w) : SD K tCont ρ w Po := fun σ H De a b S => S.ct ρ w σ H Ext.refl b a q
theorem sd_seq (h : SD K t ρ w { Po with nx := fun ρ' w' => SD K u ρ' w' Po }) : SD K (tSeq t u) ρ w Po := fun σ H De a b S =>
  h σ H _ a b ⟨fun ρ' w' σ' H' e c r q => q σ' H' De r c (S.ext e), S.rt, S.bk, S.ct⟩
theorem sd_asg (h : XD K te ρ w fun d w1 => GD K g d ρ w1 Po.nx) : SD K (tAsg te g) ρ w Po := fun σ H De a b S =>
  h σ H _ a b fun d w1 v H1 e1 c1 r1 h1 => h1 σ H1 v _ (a.ext e1) c1 r1 fun ρ' w' σ' H' e2 c2 r2 q => S.nx ρ' w' σ' H' (e1.trans e2) c2 r2 q
theorem sd_set (h : XD K te ρ w fun d w1 => Po.nx (ρ.set n (some d)) w1) : SD K (tAsg te (gName n)) ρ w Po := sd_asg (xd_mono h fun d w1 q => gd_name q)
theorem sd_ret (h : XD K te ρ w Po.rt) : SD K (tRet te) ρ w Po := fun σ H De a b S => h σ H _ a b fun d w1 v H1 e1 c1 r1 q => S.rt d w1 v H1 e1 c1 r1 q
theorem sd_drop (h : XD K te ρ w fun _ w1 => Po.nx ρ w1) : SD K (tDrop te) ρ w Po := fun σ H De a b S => h σ H _ a b fun d w1 v H1 e1 c1 r1 q => S.nx ρ w1 σ H1 e1 c1 (a.ext e1) q
theorem sd_if {tc : TT} (h : TD K tc ρ w fun b w1 => (b = true → SD K t ρ w1 Po) ∧ (b = false → SD K u ρ w1 Po)) : SD K (tIfS tc t u) ρ w Po := fun σ H De a b S =>
  h σ H _ a b fun c w1 H1 e1 c1 h1 => by
    cases c with
    | true => exact h1.1 rfl σ H1 De (a.ext e1) c1 (S.ext e1)
    | false => exact h1.2 rfl σ H1 De (a.ext e1) c1 (S.ext e1)
theorem sd_par {tt : TA} (h : AD K tt ρ w fun ds w1 => ∃ x y, ds = [x, y] ∧ Po.nx ((ρ.set n (some x)).set m (some y)) w1) : SD K (tPar n m tt) ρ w Po := fun σ H De a b S =>
  h σ H _ a b fun ds w1 vs H1 e1 c1 r1 h1 => by
    obtain ⟨x, y, rfl, q⟩ := h1
    obtain ⟨u1, r2, rfl, h1, u2, r3, rfl, h2, rfl⟩ := r1
    exact ⟨u1, u2, rfl, S.nx _ w1 _ H1 e1 c1 (((a.ext e1).set h1).set h2) q⟩
/-- a op= b, by values -/
def ID (K : PySem.W.Frag) (r : TIp) (x y : Dat) (w : Wd) (Q : Dat → Wd → Prop) : Prop := OD K r x y w Q
theorem id_I {f : Int → Int → Int} {i j : Int} {Q : Dat → Wd → Prop} (q : Q (.int (f i j)) w) : OD K (ipI f) (.int i) (.int j) w Q := od_pure (z := .int (f i j)) (fun _ _ _ _ _ a b e => ⟨i, j, a, b, e⟩) q
theorem sd_aug {tip : TIp} {x : Dat} (hx : ρ[n]? = some (some x)) (h : XD K te ρ w fun y w1 => OD K tip x y w1 fun z w2 => Po.nx (ρ.set n (some z)) w2) : SD K (tAug n te tip) ρ w Po := by
  intro σ H De a b S
  obtain ⟨v, h1, h2⟩ := a.2 n x hx
  refine ⟨v, h1, h σ H _ a b fun y w1 u H1 e1 c1 r1 q1 => ?_⟩
  exact q1 H1 v u _ c1 (rd_ext e1 h2) r1 fun z w2 zv H2 e2 c2 r2 q2 => S.nx _ w2 _ H2 (e1.trans e2) c2 ((a.ext (e1.trans e2)).set r2) q2
theorem sd_augS {tip : TIp} (h : XD K to ρ w fun o w1 => XD K ti ρ w1 fun ix w2 => ∃ p ds k j x, o = .obj p ∧ ix = .int k ∧ w2 p = some ds ∧ ixN ds.length k = some j ∧ ds[j]? = some x ∧
    XD K te ρ w2 fun y w3 => OD K tip x y w3 fun z w4 => ∃ es j', w4 p = some es ∧ ixN es.length k = some j' ∧ Po.nx ρ (w4.put p (es.set j' z))) : SD K (tAugS to ti te (rIxL K) tip rSetL) ρ w Po := by
  intro σ H De a b S
  refine h σ H _ a b fun o w1 u H1 e1 c1 r1 h1 => ?_
  refine h1 σ H1 _ (a.ext e1) c1 fun ix w2 u2 H2 e2 c2 r2 h2 => ?_
  obtain ⟨p, ds, k, j, x, rfl, rfl, hp, hj, hx, h3⟩ := h2
  obtain ⟨vs, hv, rv⟩ := c2 p ds hp
  obtain ⟨xv, hxv, rx⟩ := rds_get rv hx
  have hat : atI vs k = some xv := by
    unfold atI
    rw [← rds_length rv, hj]
    exact hxv
  refine ⟨p, vs, k, xv, r1, r2, SqL.of hv, hat, ?_⟩
  refine h3 σ H2 _ (a.ext (e1.trans e2)) c2 fun y w3 u3 H3 e3 c3 r3 h4 => ?_
  refine h4 H3 xv u3 _ c3 (rd_ext e3 rx) r3 fun z w4 zv H4 e4 c4 r4 h5 => ?_
  obtain ⟨es, j', hp4, hj4, q⟩ := h5
  obtain ⟨vs4, hv4, rv4⟩ := c4 p es hp4
  refine ⟨p, vs4, k, j', r1, r2, hv4, by rw [← rds_length rv4]; exact hj4, ?_⟩
  have e5 : Ext w4 (w4.put p (es.set j' z)) H4 (upd H4 p (.lst (vs4.set j' zv))) := Ext.mut (by rw [hp4]; simp)
  have ee := e1.trans (e2.trans (e3.trans (e4.trans e5)))
  exact S.nx ρ _ σ _ ee (c4.put e5 (rds_set j' rv4 r4)) (a.ext ee) q
theorem sd_sub (h : SD K t ρ w { Po with nx := fun ρ' w' => ∃ w2, sub w2 w' ∧ Po.nx ρ' w2, rt := fun d w' => ∃ w2, sub w2 w' ∧ Po.rt d w2 }) : SD K t ρ w Po := fun σ H De a b S =>
  h σ H _ a b ⟨fun ρ' w' σ' H' e c r ⟨w2, s, q⟩ => S.nx ρ' w2 σ' H' (e.trans s.ext) (c.sub s) (r.ext s.ext) q, fun d w' v H' e c r ⟨w2, s, q⟩ => S.rt d w2 v H' (e.trans s.ext) (c.sub s) (rd_ext s.ext r) q, S.bk, S.ct⟩
theorem sd_mono {Po' : Post} (h : SD K t ρ w Po) (h1 : ∀ ρ' w', Po.nx ρ' w' → Po'.nx ρ' w') (h2 : ∀ d w', Po.rt d w' → Po'.rt d w') (h3 : ∀ ρ' w', Po.bk ρ' w' → Po'.bk ρ' w') (h4 : ∀ ρ' w', Po.ct ρ' w' → Po'.ct ρ' w') : SD K t ρ w Po' := fun σ H De a b S =>
  h σ H De a b ⟨fun ρ' w' σ' H' e c r q => S.nx ρ' w' σ' H' e c r (h1 _ _ q), fun d w' v H' e c r q => S.rt d w' v H' e c r (h2 _ _ q), fun ρ' w' σ' H' e c r q => S.bk ρ' w' σ' H' e c r (h3 _ _ q), fun ρ' w' σ' H' e c r q => S.ct ρ' w' σ' H' e c r (h4 _ _ q)⟩
/-- a slot's data may be frozen, slots forgotten: another environment for the same slots -/
theorem sd_env {ρ' : Env} (hl : ρ'.length = ρ.length) (hw : ∀ (i : Nat) (d : Dat), ρ'[i]? = some (some d) → ρ[i]? = some (some d)) (h : SD K t ρ' w Po) : SD K t ρ w Po := fun σ H De a b S => h σ H De (a.weak hl hw) b S
/-- the mutable list at p, which stands in slot n, is data from now on -/
theorem sd_frz {p : Addr} {ds : List Dat} (hn : ρ[n]? = some (some (.obj p))) (hp : w p = some ds) (h : SD K t (ρ.set n (some (.lst ds))) (w.del p) Po) : SD K t ρ w Po := fun σ H De a b S => by
  obtain ⟨v, h1, h2⟩ := a.2 n _ hn
  obtain ⟨vs, hv, rv⟩ := b p ds hp
  have e2 : Ext w (w.del p) H H := sub_del.ext
  have hs : σ.set n (some v) = σ := by
    refine List.ext_getElem? fun j => ?_
    by_cases hj : n = j
    · subst hj
      rw [h1, List.getElem?_set_self (List.getElem?_eq_some_iff.mp h1).1]
    · rw [List.getElem?_set_ne hj]
  have r : rd K (w.del p) H (.lst ds) v := ⟨p, vs, h2, ⟨by unfold Wd.del; rw [if_pos rfl], hv⟩, rds_ext e2 rv⟩
  have er := (a.ext e2).set (i := n) r
  rw [hs] at er
  exact h σ H De er (b.sub sub_del) (S.ext e2)

/-! ### what is walked -/
/-- a list that is data -/
inductive Fz : Dat → List Dat → Prop where
  | lst (ds : List Dat) : Fz (.lst ds) ds
  | slst (ds : List Dat) : Fz (.slst ds) ds
theorem Fz.seq {H : Hp} {v : V} {ds : List Dat} (h : Fz d ds) (r : rd K w H d v) : ∃ p vs, v = .ref p ∧ (∀ w' H', Ext w w' H H' → SqL K H' p vs) ∧ rds K w H ds vs := by
  cases h with
  | lst =>
    obtain ⟨p, vs, e, ⟨n, h⟩, r⟩ := r
    exact ⟨p, vs, e, fun w' H' x => SqL.of (x.keep p _ n h), r⟩
  | slst =>
    obtain ⟨p, vs, e, h, r⟩ := r
    refine ⟨p, vs, e, fun w' H' x => ?_, r⟩
    rcases h with ⟨n, h | ⟨o, h⟩⟩ | h
    · exact SqL.of (x.keep p _ n h)
    · exact .inl (.inr ⟨o, x.keep p _ n h⟩)
    · exact .inr h
theorem sd_forL {tl : TE} (h : XD K tl ρ w fun d w0 => ∃ xs, Fz d xs ∧ ∃ J : Nat → Env → Wd → Prop, J 0 ρ w0 ∧
    (∀ (i : Nat) (x : Dat) (ρ' : Env) (w' : Wd), xs[i]? = some x → J i ρ' w' → GD K g x ρ' w' fun ρ2 w2 => SD K t ρ2 w2 { nx := J (i + 1), ct := J (i + 1), bk := Po.nx, rt := Po.rt }) ∧
    ∀ ρ' w', J xs.length ρ' w' → Po.nx ρ' w') : SD K (tFor (iList K tl) g t) ρ w Po := by
  intro σ H De a b S
  refine h σ H _ a b fun d w0 u H0 e0 c0 r0 h0 => ?_
  obtain ⟨xs, hz, J, j0, step, fin⟩ := h0
  obtain ⟨p, vs, rfl, st, r⟩ := hz.seq r0
  refine ⟨p, rfl, ⟨vs, st _ _ Ext.refl⟩, ?_⟩
  refine for_list (xs := vs) (fun i σ' H' => ∃ ρ' w', Ext w0 w' H0 H' ∧ wr K w' H' ∧ ER K w' H' σ' ρ' ∧ J i ρ' w') ⟨ρ, w0, Ext.refl, c0, a.ext e0, j0⟩ (fun i σ' H' _ ⟨_, w', e, _⟩ => st w' H' e) (fun i x σ' H' hx ⟨ρ', w', e, c, er, j⟩ => ?_) (fun σ' H' ⟨ρ', w', e, c, er, j⟩ => ?_)
  · obtain ⟨d, hd, rdx⟩ := rds_getV (rds_ext e r) hx
    refine step i d ρ' w' hd j σ' H' x _ er c rdx fun ρ2 w2 σ2 H2 e2 c2 er2 hb => ?_
    exact hb σ2 H2 _ er2 c2 ⟨fun ρ3 w3 σ3 H3 e3 c3 er3 j3 => ⟨ρ3, w3, e.trans (e2.trans e3), c3, er3, j3⟩, fun d w3 v H3 e3 c3 r3 q => S.rt d w3 v H3 (e0.trans (e.trans (e2.trans e3))) c3 r3 q,
      fun ρ3 w3 σ3 H3 e3 c3 er3 j3 => S.nx ρ3 w3 σ3 H3 (e0.trans (e.trans (e2.trans e3))) c3 er3 j3, fun ρ3 w3 σ3 H3 e3 c3 er3 j3 => ⟨ρ3, w3, e.trans (e2.trans e3), c3, er3, j3⟩⟩
  · rw [← rds_length r] at j
    exact S.nx ρ' w' σ' H' (e0.trans e) c er (fin ρ' w' j)
theorem sd_forT {tl : TE} (h : XD K tl ρ w fun d w0 => ∃ xs, d = .tup xs ∧ ∃ J : Nat → Env → Wd → Prop, J 0 ρ w0 ∧
    (∀ (i : Nat) (x : Dat) (ρ' : Env) (w' : Wd), xs[i]? = some x → J i ρ' w' → GD K g x ρ' w' fun ρ2 w2 => SD K t ρ2 w2 { nx := J (i + 1), ct := J (i + 1), bk := Po.nx, rt := Po.rt }) ∧
    ∀ ρ' w', J xs.length ρ' w' → Po.nx ρ' w') : SD K (tFor (iTup K tl) g t) ρ w Po := by
  intro σ H De a b S
  refine h σ H _ a b fun d w0 u H0 e0 c0 r0 h0 => ?_
  obtain ⟨xs, rfl, J, j0, step, fin⟩ := h0
  obtain ⟨p, vs, rfl, ⟨np, hp⟩, r⟩ := r0
  have st : ∀ w' H', Ext w0 w' H0 H' → SqT K H' p vs := fun w' H' x => SqT.of (x.keep p _ np hp)
  refine ⟨p, rfl, ⟨vs, st _ _ Ext.refl⟩, ?_⟩
  refine for_tup (xs := vs) (fun i σ' H' => ∃ ρ' w', Ext w0 w' H0 H' ∧ wr K w' H' ∧ ER K w' H' σ' ρ' ∧ J i ρ' w') ⟨ρ, w0, Ext.refl, c0, a.ext e0, j0⟩ (fun i σ' H' _ ⟨_, w', e, _⟩ => st w' H' e) (fun i x σ' H' hx ⟨ρ', w', e, c, er, j⟩ => ?_) (fun σ' H' ⟨ρ', w', e, c, er, j⟩ => ?_)
  · obtain ⟨d, hd, rdx⟩ := rds_getV (rds_ext e r) hx
    refine step i d ρ' w' hd j σ' H' x _ er c rdx fun ρ2 w2 σ2 H2 e2 c2 er2 hb => ?_
    exact hb σ2 H2 _ er2 c2 ⟨fun ρ3 w3 σ3 H3 e3 c3 er3 j3 => ⟨ρ3, w3, e.trans (e2.trans e3), c3, er3, j3⟩, fun d w3 v H3 e3 c3 r3 q => S.rt d w3 v H3 (e0.trans (e.trans (e2.trans e3))) c3 r3 q,
      fun ρ3 w3 σ3 H3 e3 c3 er3 j3 => S.nx ρ3 w3 σ3 H3 (e0.trans (e.trans (e2.trans e3))) c3 er3 j3, fun ρ3 w3 σ3 H3 e3 c3 er3 j3 => ⟨ρ3, w3, e.trans (e2.trans e3), c3, er3, j3⟩⟩
  · rw [← rds_length r] at j
    exact S.nx ρ' w' σ' H' (e0.trans e) c er (fin ρ' w' j)
theorem sd_forR1 {tt : TA} (h : AD K tt ρ w fun ds w0 => ∃ n : Int, ds = [.int n] ∧ -(2 ^ 62) ≤ n ∧ n < 2 ^ 62 ∧ ∃ J : Nat → Env → Wd → Prop, J 0 ρ w0 ∧
    (∀ (i : Nat) (ρ' : Env) (w' : Wd), (i : Int) < n → J i ρ' w' → GD K g (.int i) ρ' w' fun ρ2 w2 => SD K t ρ2 w2 { nx := J (i + 1), ct := J (i + 1), bk := Po.nx, rt := Po.rt }) ∧
    ∀ ρ' w', J n.toNat ρ' w' → Po.nx ρ' w') : SD K (tFor (iRng1 tt) g t) ρ w Po := by
  intro σ H De a b S
  refine h σ H _ a b fun ds w0 us H0 e0 c0 r0 h0 => ?_
  obtain ⟨n, rfl, h1, h2, J, j0, step, fin⟩ := h0
  obtain ⟨_, _, rfl, rfl, rfl⟩ := r0
  refine ⟨n, rfl, h1, h2, ?_⟩
  refine for_range (lo := 0) (n := n.toNat) (fun i σ' H' => ∃ ρ' w', Ext w0 w' H0 H' ∧ wr K w' H' ∧ ER K w' H' σ' ρ' ∧ J i ρ' w') ⟨ρ, w0, Ext.refl, c0, a.ext e0, j0⟩ (fun i σ' H' hi ⟨ρ', w', e, c, er, j⟩ => ?_) (fun σ' H' ⟨ρ', w', e, c, er, j⟩ => ?_)
  · rw [show (0 : Int) + (i : Int) = (i : Int) from Int.zero_add _]
    refine step i ρ' w' (by omega) j σ' H' (.int i) _ er c rfl fun ρ2 w2 σ2 H2 e2 c2 er2 hb => ?_
    exact hb σ2 H2 _ er2 c2 ⟨fun ρ3 w3 σ3 H3 e3 c3 er3 j3 => ⟨ρ3, w3, e.trans (e2.trans e3), c3, er3, j3⟩, fun d w3 v H3 e3 c3 r3 q => S.rt d w3 v H3 (e0.trans (e.trans (e2.trans e3))) c3 r3 q,
      fun ρ3 w3 σ3 H3 e3 c3 er3 j3 => S.nx ρ3 w3 σ3 H3 (e0.trans (e.trans (e2.trans e3))) c3 er3 j3, fun ρ3 w3 σ3 H3 e3 c3 er3 j3 => ⟨ρ3, w3, e.trans (e2.trans e3), c3, er3, j3⟩⟩
  · exact S.nx ρ' w' σ' H' (e0.trans e) c er (fin ρ' w' j)
theorem sd_forR2 {tt : TA} (h : AD K tt ρ w fun ds w0 => ∃ lo n : Int, ds = [.int lo, .int n] ∧ (-(2 ^ 62) ≤ lo ∧ lo < 2 ^ 62 ∧ -(2 ^ 62) ≤ n ∧ n < 2 ^ 62) ∧ ∃ J : Nat → Env → Wd → Prop, J 0 ρ w0 ∧
    (∀ (i : Nat) (ρ' : Env) (w' : Wd), lo + (i : Int) < n → J i ρ' w' → GD K g (.int (lo + i)) ρ' w' fun ρ2 w2 => SD K t ρ2 w2 { nx := J (i + 1), ct := J (i + 1), bk := Po.nx, rt := Po.rt }) ∧
    ∀ ρ' w', J (n - lo).toNat ρ' w' → Po.nx ρ' w') : SD K (tFor (iRng2 tt) g t) ρ w Po := by
  intro σ H De a b S
  refine h σ H _ a b fun ds w0 us H0 e0 c0 r0 h0 => ?_
  obtain ⟨lo, n, rfl, hb, J, j0, step, fin⟩ := h0
  obtain ⟨_, _, rfl, rfl, _, _, rfl, rfl, rfl⟩ := r0
  refine ⟨lo, n, rfl, hb, ?_⟩
  refine for_range (lo := lo) (n := (n - lo).toNat) (fun i σ' H' => ∃ ρ' w', Ext w0 w' H0 H' ∧ wr K w' H' ∧ ER K w' H' σ' ρ' ∧ J i ρ' w') ⟨ρ, w0, Ext.refl, c0, a.ext e0, j0⟩ (fun i σ' H' hi ⟨ρ', w', e, c, er, j⟩ => ?_) (fun σ' H' ⟨ρ', w', e, c, er, j⟩ => ?_)
  · refine step i ρ' w' (by omega) j σ' H' (.int (lo + i)) _ er c rfl fun ρ2 w2 σ2 H2 e2 c2 er2 hb => ?_
    exact hb σ2 H2 _ er2 c2 ⟨fun ρ3 w3 σ3 H3 e3 c3 er3 j3 => ⟨ρ3, w3, e.trans (e2.trans e3), c3, er3, j3⟩, fun d w3 v H3 e3 c3 r3 q => S.rt d w3 v H3 (e0.trans (e.trans (e2.trans e3))) c3 r3 q,
      fun ρ3 w3 σ3 H3 e3 c3 er3 j3 => S.nx ρ3 w3 σ3 H3 (e0.trans (e.trans (e2.trans e3))) c3 er3 j3, fun ρ3 w3 σ3 H3 e3 c3 er3 j3 => ⟨ρ3, w3, e.trans (e2.trans e3), c3, er3, j3⟩⟩
  · exact S.nx ρ' w' σ' H' (e0.trans e) c er (fin ρ' w' j)
theorem sd_while {tc : TT} {J : Nat → Env → Wd → Prop} (m0 : Nat) (h0 : J m0 ρ w) (hs : ∀ m ρ' w', J m ρ' w' → TD K tc ρ' w' fun b w1 => (b = true → SD K t ρ' w1 { nx := fun ρ2 w2 => ∃ m', m' < m ∧ J m' ρ2 w2, ct := fun ρ2 w2 => ∃ m', m' < m ∧ J m' ρ2 w2, bk := Po.nx, rt := Po.rt }) ∧ (b = false → Po.nx ρ' w1)) :
    SD K (tWhile tc t) ρ w Po := by
  intro σ H De a b S
  refine ⟨fun m σ' H' => ∃ ρ' w', Ext w w' H H' ∧ wr K w' H' ∧ ER K w' H' σ' ρ' ∧ J m ρ' w', ⟨m0, ρ, w, Ext.refl, b, a, h0⟩, ?_⟩
  rintro m σ' H' ⟨ρ', w', e, c, er, j⟩
  refine hs m ρ' w' j σ' H' _ er c fun k w1 H1 e1 c1 h1 => ?_
  cases k with
  | true =>
    rw [if_pos rfl]
    refine ⟨fun σ2 H2 => ∃ m', m' < m ∧ ∃ ρ' w', Ext w w' H H2 ∧ wr K w' H2 ∧ ER K w' H2 σ2 ρ' ∧ J m' ρ' w', fun _ _ z => z, ?_⟩
    exact h1.1 rfl σ' H1 _ (er.ext e1) c1 ⟨fun ρ3 w3 σ3 H3 e3 c3 er3 ⟨m', l, j3⟩ => ⟨m', l, ρ3, w3, e.trans (e1.trans e3), c3, er3, j3⟩, fun d w3 v H3 e3 c3 r3 q => S.rt d w3 v H3 (e.trans (e1.trans e3)) c3 r3 q,
      fun ρ3 w3 σ3 H3 e3 c3 er3 j3 => S.nx ρ3 w3 σ3 H3 (e.trans (e1.trans e3)) c3 er3 j3, fun ρ3 w3 σ3 H3 e3 c3 er3 ⟨m', l, j3⟩ => ⟨m', l, ρ3, w3, e.trans (e1.trans e3), c3, er3, j3⟩⟩
  | false =>
    rw [if_neg Bool.false_ne_true]
    exact S.nx ρ' w1 σ' H1 (e.trans e1) c1 (er.ext e1) (h1.2 rfl)

/-! ### comprehensions -/
/-- the target touches wiped slots alone -/
def GW (g : TG) (vs : List Nat) : Prop := ∀ (x : V) (σ : L2.St) (H : Hp) (Q : L2.St → Hp → Prop), g x (L2.wipe σ vs) H Q → g x (L2.wipe σ vs) H fun σ2 H2 => L2.wipe σ2 vs = L2.wipe σ vs ∧ Q σ2 H2
theorem wipe_at {σ : L2.St} {j : Nat} : ∀ {vs : List Nat}, (L2.wipe σ vs)[j]? = if j ∈ vs then (if j < σ.length then some none else none) else σ[j]?
  | [] => by simp [L2.wipe]
  | v :: vs => by
    unfold L2.wipe
    by_cases hj : v = j
    · subst hj
      rw [if_pos (by simp)]
      by_cases hl : v < σ.length
      · rw [if_pos hl, List.getElem?_set_self (by rw [L2.wipe_length]; exact hl)]
      · rw [if_neg hl, List.getElem?_eq_none (by rw [List.length_set, L2.wipe_length]; omega)]
    · rw [List.getElem?_set_ne hj, wipe_at]
      have e : (j ∈ v :: vs) = (j ∈ vs) := by
        rw [List.mem_cons]
        exact propext ⟨fun z => z.resolve_left (Ne.symm hj), .inr⟩
      simp only [e]
theorem wipe_set {σ : L2.St} {vs : List Nat} {i : Nat} {v : Option V} (h : i ∈ vs) : L2.wipe ((L2.wipe σ vs).set i v) vs = L2.wipe σ vs := by
  refine List.ext_getElem? fun j => ?_
  rw [wipe_at, wipe_at, List.length_set, L2.wipe_length]
  by_cases hj : j ∈ vs
  · rw [if_pos hj, if_pos hj]
  · rw [if_neg hj, if_neg hj]
    have : i ≠ j := fun e => hj (e ▸ h)
    rw [List.getElem?_set_ne this, wipe_at, if_neg hj]
theorem wipe_set2 {σ : L2.St} {vs : List Nat} {i j : Nat} {v u : Option V} (h : i ∈ vs) (h' : j ∈ vs) : L2.wipe (((L2.wipe σ vs).set i v).set j u) vs = L2.wipe σ vs := by
  refine List.ext_getElem? fun k => ?_
  rw [wipe_at, wipe_at, List.length_set, List.length_set, L2.wipe_length]
  by_cases hj : k ∈ vs
  · rw [if_pos hj, if_pos hj]
  · rw [if_neg hj, if_neg hj]
    have e1 : i ≠ k := fun e => hj (e ▸ h)
    have e2 : j ≠ k := fun e => hj (e ▸ h')
    rw [List.getElem?_set_ne e2, List.getElem?_set_ne e1, wipe_at, if_neg hj]
theorem gw_name {vs : List Nat} {i : Nat} (h : i ∈ vs) : GW (gName i) vs := fun _ _ _ _ q => ⟨wipe_set h, q⟩
theorem gw_tup2 {vs : List Nat} {i j : Nat} (h : i ∈ vs) (h' : j ∈ vs) : GW (gTup K 2 (gCons (gName i) (gCons (gName j) gNil))) vs := by
  intro x σ H Q q
  obtain ⟨a, xs, rfl, h1, h2, v, r, rfl, v2, r2, rfl, rfl, q⟩ := q
  exact ⟨a, _, rfl, h1, rfl, v, _, rfl, v2, _, rfl, rfl, wipe_set2 h h', q⟩
variable {Q : Dat → Wd → Prop} {vs : List Nat} {tt : TT}
/-- one turn of a comprehension's block -/
def LcStep (K : PySem.W.Frag) (g : TG) (tt : TT) (te : TE) (ρ : Env) (vs : List Nat) (p : Addr) (J : Nat → Wd → Prop) (i : Nat) (x : Dat) (w' : Wd) : Prop :=
  GD K g x (wipeD ρ vs) w' fun ρ2 w2 => TD K tt ρ2 w2 fun b w3 => (b = true → XD K te ρ2 w3 fun y w4 => ∃ acc, w4 p = some acc ∧ acc.length < sizeLine ∧ J (i + 1) (w4.put p (acc ++ [y]))) ∧ (b = false → J (i + 1) w3)
theorem lc_turn {σ : L2.St} {H0 H' : Hp} {w0 w' : Wd} {p : Addr} {J : Nat → Wd → Prop} {i : Nat} {x : Dat} {v : V} (gw : GW g vs) (h : LcStep K g tt te ρ vs p J i x w') (e : Ext w0 w' H0 H') (c : wr K w' H') (er : ER K w' H' (L2.wipe σ vs) (wipeD ρ vs)) (r : rd K w' H' x v) :
    g v (L2.wipe σ vs) H' fun σ2 H2 => L2.wipe σ2 vs = L2.wipe σ vs ∧ tt σ2 H2 fun b H3 => if b = true then te σ2 H3 fun y H4 => ∃ acc, H4 p = some (.lst acc) ∧ acc.length < sizeLine ∧ ∃ w', Ext w0 w' H0 (upd H4 p (.lst (acc ++ [y]))) ∧ wr K w' (upd H4 p (.lst (acc ++ [y]))) ∧ J (i + 1) w'
      else ∃ w', Ext w0 w' H0 H3 ∧ wr K w' H3 ∧ J (i + 1) w' := by
  refine gw v σ H' _ ?_
  refine h _ H' v _ er c r fun ρ2 w2 σ2 H2 e2 c2 er2 ht => ?_
  refine ht σ2 H2 _ er2 c2 fun b w3 H3 e3 c3 hb => ?_
  cases b with
  | false =>
    rw [if_neg Bool.false_ne_true]
    exact ⟨w3, e.trans (e2.trans e3), c3, hb.2 rfl⟩
  | true =>
    rw [if_pos rfl]
    refine hb.1 rfl σ2 H3 _ (er2.ext e3) c3 fun y w4 z H4 e4 c4 r4 hq => ?_
    obtain ⟨acc, ha, hl, j4⟩ := hq
    obtain ⟨vacc, hv, rv⟩ := c4 p acc ha
    have e5 : Ext w4 (w4.put p (acc ++ [y])) H4 (upd H4 p (.lst (vacc ++ [z]))) := Ext.mut (by rw [ha]; simp)
    exact ⟨vacc, hv, by rw [← rds_length rv]; exact hl, w4.put p (acc ++ [y]), e.trans (e2.trans (e3.trans (e4.trans e5))), c4.put e5 (rds_append rv ⟨z, [], rfl, r4, rfl⟩), j4⟩
theorem xd_lcL {tl : TE} (gw : GW g vs) (h : XD K tl ρ w fun d w0 => ∃ xs, Fz d xs ∧ ∀ p, w0 p = none → ∃ J : Nat → Wd → Prop, J 0 (w0.put p []) ∧
    (∀ (i : Nat) (x : Dat) (w' : Wd), xs[i]? = some x → J i w' → LcStep K g tt te ρ vs p J i x w') ∧ ∀ w', J xs.length w' → Q (.obj p) w') : XD K (tLc (iList K tl) g tt te vs) ρ w Q := by
  intro σ H Qv a b k
  refine h σ H _ a b fun d w0 u H0 e0 c0 r0 h0 => ?_
  obtain ⟨xs, hz, hp⟩ := h0
  obtain ⟨q, us, rfl, st, r⟩ := hz.seq r0
  refine ⟨q, rfl, ⟨us, st _ _ Ext.refl⟩, fun D hD => ?_⟩
  obtain ⟨J, j0, step, fin⟩ := hp D (c0.dom hD)
  have eD : Ext w0 (w0.put D []) H0 (upd H0 D (.lst [])) := Ext.newL hD
  refine lc_list (xs := us) (fun i H' => ∃ w', Ext w0 w' H0 H' ∧ wr K w' H' ∧ J i w') ⟨_, eD, c0.put eD rfl, j0⟩ (fun i H' _ ⟨w', e, _⟩ => st w' H' e) (fun i x H' hx ⟨w', e, c, j⟩ => ?_) (fun H' ⟨w', e, c, j⟩ => ?_)
  · obtain ⟨d, hd, rdx⟩ := rds_getV (rds_ext e r) hx
    exact lc_turn gw (step i d w' hd j) e c ((a.ext (e0.trans e)).wipe _) rdx
  · rw [← rds_length r] at j
    exact k (.obj D) w' _ H' (e0.trans e) c rfl (fin w' j)
theorem xd_lcT {tl : TE} (gw : GW g vs) (h : XD K tl ρ w fun d w0 => ∃ xs, d = .tup xs ∧ ∀ p, w0 p = none → ∃ J : Nat → Wd → Prop, J 0 (w0.put p []) ∧
    (∀ (i : Nat) (x : Dat) (w' : Wd), xs[i]? = some x → J i w' → LcStep K g tt te ρ vs p J i x w') ∧ ∀ w', J xs.length w' → Q (.obj p) w') : XD K (tLc (iTup K tl) g tt te vs) ρ w Q := by
  intro σ H Qv a b k
  refine h σ H _ a b fun d w0 u H0 e0 c0 r0 h0 => ?_
  obtain ⟨xs, rfl, hp⟩ := h0
  obtain ⟨q, us, rfl, ⟨nq, hq⟩, r⟩ := r0
  have st : ∀ w' H', Ext w0 w' H0 H' → SqT K H' q us := fun w' H' x => SqT.of (x.keep q _ nq hq)
  refine ⟨q, rfl, ⟨us, st _ _ Ext.refl⟩, fun D hD => ?_⟩
  obtain ⟨J, j0, step, fin⟩ := hp D (c0.dom hD)
  have eD : Ext w0 (w0.put D []) H0 (upd H0 D (.lst [])) := Ext.newL hD
  refine lc_tup (xs := us) (fun i H' => ∃ w', Ext w0 w' H0 H' ∧ wr K w' H' ∧ J i w') ⟨_, eD, c0.put eD rfl, j0⟩ (fun i H' _ ⟨w', e, _⟩ => st w' H' e) (fun i x H' hx ⟨w', e, c, j⟩ => ?_) (fun H' ⟨w', e, c, j⟩ => ?_)
  · obtain ⟨d, hd, rdx⟩ := rds_getV (rds_ext e r) hx
    exact lc_turn gw (step i d w' hd j) e c ((a.ext (e0.trans e)).wipe _) rdx
  · rw [← rds_length r] at j
    exact k (.obj D) w' _ H' (e0.trans e) c rfl (fin w' j)
theorem xd_lcR1 {ar : TA} (gw : GW g vs) (h : AD K ar ρ w fun ds w0 => ∃ n : Int, ds = [.int n] ∧ -(2 ^ 62) ≤ n ∧ n < 2 ^ 62 ∧ ∀ p, w0 p = none → ∃ J : Nat → Wd → Prop, J 0 (w0.put p []) ∧
    (∀ (i : Nat) (w' : Wd), (i : Int) < n → J i w' → LcStep K g tt te ρ vs p J i (.int i) w') ∧ ∀ w', J n.toNat w' → Q (.obj p) w') : XD K (tLc (iRng1 ar) g tt te vs) ρ w Q := by
  intro σ H Qv a b k
  refine h σ H _ a b fun ds w0 u H0 e0 c0 r0 h0 => ?_
  obtain ⟨n, rfl, h1, h2, hp⟩ := h0
  obtain ⟨_, _, rfl, rfl, rfl⟩ := r0
  refine ⟨n, rfl, h1, h2, fun D hD => ?_⟩
  obtain ⟨J, j0, step, fin⟩ := hp D (c0.dom hD)
  have eD : Ext w0 (w0.put D []) H0 (upd H0 D (.lst [])) := Ext.newL hD
  refine lc_range (lo := 0) (n := n.toNat) (fun i H' => ∃ w', Ext w0 w' H0 H' ∧ wr K w' H' ∧ J i w') ⟨_, eD, c0.put eD rfl, j0⟩ (fun i H' hi ⟨w', e, c, j⟩ => ?_) (fun H' ⟨w', e, c, j⟩ => ?_)
  · rw [show (0 : Int) + (i : Int) = (i : Int) from Int.zero_add _]
    exact lc_turn gw (step i w' (by omega) j) e c ((a.ext (e0.trans e)).wipe _) rfl
  · exact k (.obj D) w' _ H' (e0.trans e) c rfl (fin w' j)

/-! ### a def -/
def startD (N : List Str) (ds : List Dat) : Env := ds.map some ++ List.replicate (N.length - ds.length) none
theorem er_start {N : List Str} {H : Hp} : ∀ {ds : List Dat} {us : List V}, rds K w H ds us → ER K w H (L2.start N us) (startD N ds) := by
  intro ds us r
  have hl := rds_length r
  unfold L2.start startD
  refine ⟨by simp [hl], fun i d q => ?_⟩
  by_cases hi : i < ds.length
  · rw [List.getElem?_append_left (by simpa using hi), List.getElem?_map] at q
    cases e : ds[i]? with
    | none => rw [e] at q; cases q
    | some x =>
      rw [e] at q
      cases q
      obtain ⟨v, h1, h2⟩ := rds_get r e
      exact ⟨v, by rw [List.getElem?_append_left (by rw [List.length_map, ← hl]; exact hi), List.getElem?_map, h1]; rfl, h2⟩
  · rw [List.getElem?_append_right (by simpa using hi), List.getElem?_replicate] at q
    split at q <;> cases q
theorem fn_ok {P : Program} {wo : World} {mg : Str → Option Value} {base : Heap} {x qual : Str} {st : Stmt} {f : Addr} {fd : FuncData} {N ps : List Str} {k : Nat} {F : FS} (Fu : Fun K x qual st f fd) (S : FnScope N ps (defScope st)) (len : ∀ ds w P, F ds w P → ds.length = ps.length)
    (hbody : ∀ (cdv : Value) (A : Around) (outer : List PySem.Env) (s : Shared) (H : Hp) (E : XK), Room k (A.deeper (envOfC qual (defScope st) s.heap.objs.size f cdv)) → ∃ t,
      PSs (cxOf CX0 P wo K mg base N qual (defScope st) f cdv A outer s H E).nox (defBody st) t ∧ ∀ (ds : List Dat) (w : Wd) (R : Dat → Wd → Prop), F ds w R → SD K t (startD N ds) w { nx := fun _ w' => R .non w', rt := R }) :
    FnOk P wo K mg base CX0 (k + 1) f fd ps (spOf K F) := by
  refine Fu.ok S (fun vs H Q E h => ?_) fun cdv A outer s H vs Q E hr h => ?_
  · obtain ⟨w, ds, P, _, r, hf, _⟩ := h
    rw [← rds_length r]
    exact len ds w P hf
  · obtain ⟨w, ds, R, c, r, hf, k⟩ := h
    obtain ⟨t, ht, hq⟩ := hbody cdv A outer s H E hr
    refine ⟨t, ht, hq ds w R hf _ H _ (er_start r) c ⟨fun ρ' w' σ' H' e c' er q => k .non w' .non H' e c' rfl q, fun d w' v H' e c' r' q => k d w' v H' e c' r' q, fun _ _ _ _ _ _ _ q => q.elim, fun _ _ _ _ _ _ _ q => q.elim⟩⟩
end

/-! ### further values -/
theorem get_list {X : Cx} : PGet X (rIxL X.K) := by
  intro pins s σ H o i ov iv Q I ro ri h
  obtain ⟨p, xs, k, z, e1, e2, hq, he, q⟩ := h
  subst e1; subst e2
  cases ro
  obtain ⟨tk, rfl⟩ := ri
  obtain ⟨its, rv, plain, _⟩ := I.list hq
  obtain ⟨j, a1, a2, a3, a4, a5⟩ := atI_get he
  obtain ⟨zz, ez, rz⟩ := rv.get a2
  have lens := rv.length
  have l63 := line63
  have hz : xs.length ≤ sizeLine := by
    obtain ⟨_, _, _, y⟩ := I.list hq
    exact y
  have done : EP X pins σ Q zz s := ⟨z, H, I, rz, q⟩
  by_cases h0 : 0 ≤ k
  · have hj : k.toNat = j := by
      have b := seqIndex_of h0 a5
      rw [a1] at b
      exact (Option.some.inj b).symm
    exact wpAny_getItem_list plain.isList h0 (by omega) (by rw [hj]; simpa using ez) done
  · have hj : (k + (its.toArray.size : Int)).toNat = j := by
      have b := seqIndex_neg (show k < 0 by omega) a4
      rw [a1] at b
      rw [List.size_toArray, ← lens]
      exact (Option.some.inj b).symm
    exact wpAny_getItem_list_neg plain.isList (by omega) (by rw [List.size_toArray] <;> omega) (by omega) (by rw [hj]; simpa using ez) done
section
variable {K : PySem.W.Frag} {ρ : Env} {w : Wd} {Q : Dat → Wd → Prop} {te : TE} {x y : Dat}
/-- a value's kind, for isinstance -/
inductive TyD (w : Wd) : Dat → String → Prop where
  | non : TyD w .non "NoneType"
  | bl (b : Bool) : TyD w (.bl b) "bool"
  | int (i : Int) : TyD w (.int i) "int"
  | str (s : Str) : TyD w (.str s) "str"
  | lst (ds : List Dat) : TyD w (.lst ds) "list"
  | tup (ds : List Dat) : TyD w (.tup ds) "tuple"
  | obj {p : Addr} {ds : List Dat} (h : w p = some ds) : TyD w (.obj p) "list"
theorem TyD.tyx {n : String} {H : Hp} {v : V} (h : TyD w x n) (c : wr K w H) (r : rd K w H x v) : TyX K H v (.type n) := by
  cases h with
  | non => cases r; exact .base .non
  | bl b => cases r; exact .base (.bl b)
  | int i => cases r; exact .base (.int i)
  | str s => cases r; exact .base (.str s)
  | lst ds =>
    obtain ⟨p, vs, rfl, ⟨_, h⟩, _⟩ := r
    exact .base (.lst h)
  | tup ds =>
    obtain ⟨p, vs, rfl, ⟨_, h⟩, _⟩ := r
    exact .base (.tup h)
  | obj h =>
    obtain ⟨vs, h1, _⟩ := c _ _ h
    cases r
    exact .base (.lst h1)
theorem cd_isi {n m : String} {b : Bool} (h : TyD w x n) (hk : kitB n m = some b) (q : Q (.bl b) w) : CD K (rIsi K) [x, .ty m] w Q :=
  cd_pure (z := .bl b) (fun _ u _ c r e => by
    obtain ⟨v, _, rfl, r1, _, _, rfl, rfl, rfl⟩ := r
    exact ⟨v, .ty m, .type n, .type m, b, rfl, .ty m, h.tyx c r1, kit_ty hk, e⟩) q
theorem dpAll_ints {H : Hp} : ∀ ns : List Int, DpAll K H (ns.map V.int) (ns.map PyData.int)
  | [] => .nil
  | n :: ns => .cons (.int n) (dpAll_ints ns)
theorem eqvAll_ints : ∀ ns ms : List Int, PyData.eqvAll (ns.map PyData.int) (ms.map PyData.int) = decide (ns = ms)
  | [], [] => rfl
  | [], _ :: _ => rfl
  | _ :: _, [] => rfl
  | a :: ns, b :: ms => by
    show (PyData.eqv (.int a) (.int b) && PyData.eqvAll (ns.map PyData.int) (ms.map PyData.int)) = _
    rw [eqvAll_ints ns ms]
    show ((a == b) && decide (ns = ms)) = _
    rw [Bool.eq_iff_iff]
    simp
theorem shaped_ints : ∀ ns : List Int, SeqAt.shaped (.list (ns.map PyData.int)) = true := by
  intro ns
  have h1 : ∀ ns : List Int, PyData.canLayAll0 (ns.map PyData.int) = true := by
    intro ns
    induction ns with
    | nil => rfl
    | cons a ns ih => simp [PyData.canLayAll0, PyData.canLay0, ih]
  have h2 : ∀ ns : List Int, PyData.depthAll (ns.map PyData.int) ≤ 1 := by
    intro ns
    induction ns with
    | nil => simp [PyData.depthAll]
    | cons a ns ih =>
      simp only [List.map_cons, PyData.depthAll, PyData.depth]
      omega
  unfold SeqAt.shaped
  simp only [PyData.canLay0, PyData.depth, h1, Bool.true_and]
  have := h2 ns
  exact decide_eq_true (by omega)
theorem od_eqL {ns ms : List Int} (s : SqD w x (ns.map .int)) (s' : SqD w y (ms.map .int)) (q : Q (.bl (decide (ns = ms))) w) : OD K (rEqD K) x y w Q :=
  od_pure (z := .bl (decide (ns = ms))) (fun H u v _ c r1 r2 e => by
    obtain ⟨p, vs, rfl, h1, k1⟩ := s.seq c r1
    obtain ⟨p', vs', rfl, h2, k2⟩ := s'.seq c r2
    rw [rds_ints k1] at h1
    rw [rds_ints k2] at h2
    refine ⟨.list (ns.map PyData.int), .list (ms.map PyData.int), .lst h1 (dpAll_ints ns), .lst h2 (dpAll_ints ms), shaped_ints ns, shaped_ints ms, ?_⟩
    rw [show PyData.eqv (.list (ns.map PyData.int)) (.list (ms.map PyData.int)) = PyData.eqvAll (ns.map PyData.int) (ms.map PyData.int) by simp [PyData.eqv], eqvAll_ints]
    exact e) q
theorem od_neL {ns ms : List Int} (s : SqD w x (ns.map .int)) (s' : SqD w y (ms.map .int)) (q : Q (.bl (!decide (ns = ms))) w) : OD K (rNeD K) x y w Q :=
  od_pure (z := .bl (!decide (ns = ms))) (fun H u v _ c r1 r2 e => by
    obtain ⟨p, vs, rfl, h1, k1⟩ := s.seq c r1
    obtain ⟨p', vs', rfl, h2, k2⟩ := s'.seq c r2
    rw [rds_ints k1] at h1
    rw [rds_ints k2] at h2
    refine ⟨.list (ns.map PyData.int), .list (ms.map PyData.int), .lst h1 (dpAll_ints ns), .lst h2 (dpAll_ints ms), shaped_ints ns, shaped_ints ms, ?_⟩
    rw [show PyData.eqv (.list (ns.map PyData.int)) (.list (ms.map PyData.int)) = PyData.eqvAll (ns.map PyData.int) (ms.map PyData.int) by simp [PyData.eqv], eqvAll_ints]
    exact e) q
/-- list(range(n)) -/
theorem xd_listRg1 (h : XD K te ρ w fun d w1 => ∃ n : Int, d = .int n ∧ RgOk 0 n ∧ ∀ p, w1 p = none → Q (.obj p) (w1.put p ((List.range n.toNat).map fun i => .int (i : Nat)))) : XD K (tLstRg (tRg1 te)) ρ w Q := by
  intro σ H Qv a b k
  refine h σ H _ a b fun d w1 u H1 e1 c1 r1 h1 => ?_
  obtain ⟨n, rfl, hr, q⟩ := h1
  refine ⟨n, r1, hr, fun l hl => ?_⟩
  have r2 : rds K w1 H1 ((List.range n.toNat).map fun i => Dat.int (i : Nat)) (rgV 0 n) := by
    have e : rgV 0 n = ((List.range n.toNat).map fun i => ((i : Nat) : Int)).map V.int := by
      unfold rgV
      rw [List.map_map, Int.sub_zero]
      congr 1
      funext i
      simp
    rw [e, show ((List.range n.toNat).map fun i => Dat.int (i : Nat)) = ((List.range n.toNat).map fun i => ((i : Nat) : Int)).map Dat.int by rw [List.map_map]; rfl]
    exact rds_of_ints _
  have e2 : Ext w1 (w1.put l ((List.range n.toNat).map fun i => Dat.int (i : Nat))) H1 (upd H1 l (.lst (rgV 0 n))) := Ext.newL hl
  exact k (.obj l) _ _ _ (e1.trans e2) (c1.put e2 r2) rfl (q l (c1.dom hl))
end
end DL
set_option Elab.async false
set_option linter.all false
set_option maxRecDepth 100000
set_option maxHeartbeats 1000000
/-! DL4: floor division of ints of any size, calls of the text's own defs, the end of a law. -/
namespace DL
open PySem PySem.Spec PyProof.Rows L2

/-- the frame that runs, for a division that the interpreter may hand to its helper module -/
structure Plain (X : Cx) : Prop where
  seer : X.base.NoSeer
  tree : X.prog.given.tree = none
  top : ∃ e l, X.stack = e :: l ∧ e.scope.isGenerator = false ∧ e.scope.isCoroutine = false ∧ e.builtins = builtinsNs ∧ e.globals = mainGlobals
  dep : X.A.depth + 100 < recursionLimit
theorem Plain.room {X : Cx} (h : Plain X) {pins : List (Addr × Obj)} {σ : L2.St} {H : Hp} {s : Shared} (I : Inv X pins σ H s) : PySem.PylongRoom (model X.prog X.w) X.A s := by
  obtain ⟨e, l, hs, g1, g2, g3, g4⟩ := h.top
  refine PySem.PylongRoom.of I.nolimit h.dep ?_
  refine PySem.SeerAt.of (env := e) (l := l) (h.seer.keeps I.bk) h.tree ?_ g1 g2 g3 g4
  rw [I.ok.frames, hs]
theorem op_fdivR {X : Cx} (h : Plain X) : OpR X (binaryOp .FloorDiv) (rI (fun _ j => j ≠ 0) fun i j => .int (i.fdiv j)) := by
  intro pins s σ H x y v u Q I rx ry hq
  obtain ⟨i, j, rfl, rfl, hj, q⟩ := hq
  obtain ⟨t1, rfl⟩ := rx
  obtain ⟨t2, rfl⟩ := ry
  exact floordiv_int hj ⟨.int _, H, I.tok _, ⟨_, rfl⟩, q⟩ (.inr (h.room I))
theorem od_fdivR {K : PySem.W.Frag} {w : Wd} {i j : Int} {Q : Dat → Wd → Prop} (hc : j ≠ 0) (q : Q (.int (i.fdiv j)) w) : OD K (rI (fun _ j => j ≠ 0) fun i j => .int (i.fdiv j)) (.int i) (.int j) w Q := od_I hc q

/-- a def of the text as the top leaves it -/
structure Kn (K : PySem.W.Frag) (mg : Str → Option Value) (x : Str) (st : Stmt) (ps : List Str) : Prop where
  ex : ∃ f fd, Fun K x x st f fd ∧ Binds K fd ps [] ∧ mg x = some (.ref f)
/-- a def that keeps a promise, ready to be called -/
structure Cal (P : Program) (wo : World) (K : PySem.W.Frag) (mg : Str → Option Value) (base : Heap) (k : Nat) (x : Str) (ps : List Str) (F : FS) : Prop where
  ex : ∃ f fd, mg x = some (.ref f) ∧ PySem.W.keepIn K (.ref f) = true ∧ Binds K fd ps [] ∧ FnOk P wo K mg base CX0 k f fd ps (spOf K F)
theorem Cal.mono {P : Program} {wo : World} {K : PySem.W.Frag} {mg : Str → Option Value} {base : Heap} {j k : Nat} {x : Str} {ps : List Str} {F : FS} (C : Cal P wo K mg base j x ps F) (h : j ≤ k) : Cal P wo K mg base k x ps F :=
  let ⟨f, fd, a, b, c, d⟩ := C.ex; ⟨f, fd, a, b, c, d.mono h⟩
theorem Kn.cal {P : Program} {wo : World} {K : PySem.W.Frag} {mg : Str → Option Value} {base : Heap} {k : Nat} {x : Str} {st : Stmt} {ps : List Str} {F : FS} (C : Kn K mg x st ps)
    (h : ∀ f fd, Fun K x x st f fd → FnOk P wo K mg base CX0 k f fd ps (spOf K F)) : Cal P wo K mg base k x ps F :=
  let ⟨f, fd, a, b, c⟩ := C.ex; ⟨f, fd, c, a.kp, b, h f fd a⟩
theorem pe_cal {X : Cx} {k : Nat} {x : Str} {ps : List Str} {F : FS} {p pos : Pos} {e : Expr} {es : List Expr} {t : TA} (C : Cal X.prog X.w X.K X.mg X.base k x ps F) (hr : Room k X.A) (hg : Gl X x)
    (ha : PA X (e :: es) t) (hdb : (x == ("__debug__" : Str)) = false := by decide) (he : starEach (e :: es) X.env = (false, eval e X.env) :: starEach es X.env := by rfl) (hpl : (backTo pos (starEach es X.env)).any (·.1) = false := by rfl) :
    PE X (.Call (.Name x p) (e :: es) [] pos) (tCall (spOf X.K F) [] E0 t) := by
  obtain ⟨f, fd, a, b, c, d⟩ := C.ex
  exact pe_call d hr hg a b c .nil pass0 ha hdb he hpl

/-- built-in names that the text leaves alone -/
structure Bltn (mg : Str → Option Value) : Prop where
  len_ : mg "len" = none
  range_ : mg "range" = none
  list_ : mg "list" = none
  abs_ : mg "abs" = none
  max_ : mg "max" = none
  sum_ : mg "sum" = none
  all_ : mg "all" = none
  any_ : mg "any" = none
  int_ : mg "int" = none
  bool_ : mg "bool" = none
  tuple_ : mg "tuple" = none
  isinstance_ : mg "isinstance" = none

/-- the law's end: as the library's, the heap's further facts handed on -/
theorem law_end {P : Program} {w : World} {K : PySem.W.Frag} {mg mb : Str → Option Value} {k : Nat} {fa a : Addr} {fd : FuncData} {x : Str} {sp : Sp} {st : Shared} {vs : List Value} {ns : List Int}
    (inK : K.In st.heap) (gl : st.heap.Ns mainGlobals mg) (bl : st.heap.Ns builtinsNs mb) (bb : ∀ x : Str, x ≠ "__name__" → mb x = bootBuiltins x) (lim : st.heap.NoLimit) (seer : st.heap.NoSeer) (gens : st.gens = #[])
    (at_ : st.heap.get? a = some { cls := .type "list", data := .seq vs.toArray }) (hin : IntsAre vs ns) (size : ns.length ≤ sizeLine) (room : Room k callerA)
    (F : ∀ base : Heap, K.In base → base.Ns mainGlobals mg → base.NoSeer → FnOk P w K mg base CX0 k fa fd [x] sp) (binds : ∀ (s : Shared) (u : Value), BindsTo s fd ⟨[u], []⟩ [(x, u)])
    (keep : ∀ H : Hp, SqL K H a (ns.map V.int) → (∀ b, H b = none ∨ ∃ o xs, H b = some (.frz o (.lst xs))) → sp [.ref a] H (fun v _ => v = .bl true) fun _ _ _ => False) :
    codeAny (model P w) callerA (.call (.ref fa) ⟨[.ref a], []⟩) (fun r s' => r = .ok (.ret (.bool true)) ∧ OldK st.heap s'.heap ∧ s'.os = st.os ∧ AllBare s'.gens) st := by
  have pair := vals_ints hin
  have many := hin.length
  have main : ∀ H : Hp, (∀ b, H b = none ∨ ∃ o xs, H b = some (.frz o (.lst xs))) → SqL K H a (ns.map V.int) → HOk P w H st.heap → (∀ b, H b ≠ none → b = a) → (H a ≠ none → K.lookup a = none) →
      codeAny (model P w) callerA (.call (.ref fa) ⟨[.ref a], []⟩) (fun r s' => r = .ok (.ret (.bool true)) ∧ OldK st.heap s'.heap ∧ s'.os = st.os ∧ AllBare s'.gens) st := by
    intro H only sq ok one apart
    have stay : ∀ {b : Addr} {o : Obj}, st.heap.get? b = some o → b ≠ a → (hidT st.heap H).get? b = some o := fun {b o} e n => hidT_get e (by
      cases q : H b with
      | none => rfl
      | some u => exact absurd (one b (by rw [q]; simp)) n)
    have nota : ∀ {b : Addr} {o : Obj} {es : Array DictEntry} {ep : Nat}, st.heap.get? b = some o → o.data = .dict es ep → b ≠ a := fun {b o es ep} e d z => by
      subst z
      rw [at_] at e
      cases e
      cases (show Data.seq vs.toArray _ = Data.dict es ep from d)
    have ns_ : ∀ {b : Addr} {m : Str → Option Value}, st.heap.Ns b m → (hidT st.heap H).Ns b m := fun {b m} ⟨o, es, ep, e, d, r⟩ => ⟨o, es, ep, stay e (nota e d), d, r⟩
    have hb : K.In (hidT st.heap H) := fun b o e => by
      cases q : H b with
      | none => exact hidT_get (inK b o e) q
      | some u =>
        have z := one b (by rw [q]; simp)
        subst z
        have := apart (by rw [q]; simp)
        rw [e] at this; cases this
    have hS : (hidT st.heap H).NoSeer := by
      refine ⟨?_, ?_, ?_, ?_⟩
      · obtain ⟨mc, c1, c2⟩ := seer.statics
        exact ⟨mc, ns_ c1, c2⟩
      · obtain ⟨mm, c1, c2⟩ := seer.mods
        exact ⟨mm, ns_ c1, c2⟩
      · obtain ⟨mc, c1, c2⟩ := seer.imp
        exact ⟨mc, ns_ c1, c2⟩
      · obtain ⟨m0, bm, ob, c1, c2, c3, c4, c5⟩ := seer.main
        refine ⟨m0, bm, ob, ns_ c1, c2, stay c3 ?_, c4, c5⟩
        rintro rfl
        rw [at_] at c3
        cases c3
        exact absurd (Value.type.inj c4) (by decide)
    have hm : Mod K mg (hidT st.heap H) := ⟨hb, ns_ gl, ⟨mb, ns_ bl, bb⟩, by
      obtain ⟨mc, c1, c2⟩ := lim
      exact ⟨mc, ns_ c1, c2⟩⟩
    have e0 : Env0 P w K mg (hidT st.heap H) callerA [] st H :=
      ⟨rfl, hm, fun b o e => of_hidT e, Nat.le_of_eq (hidT_size _ _), trivial, fun b z => absurd (show b ∈ ([] : List Addr) from z) (by simp), ok, .of_eq gens⟩
    have run := (F _ hb (ns_ gl) hS).run callerA [] st H ⟨[.ref a], []⟩ [.ref a] [.ref a] _ _ room e0 (binds st (.ref a)) (.cons rfl .nil) (keep H sq only)
    refine codeAny_mono run fun r s' h => ?_
    cases r with
    | error e => exact False.elim h
    | ok fl =>
      cases fl with
      | next => exact False.elim h
      | brk => exact False.elim h
      | cont => exact False.elim h
      | ret u =>
        obtain ⟨v, H', os, bare, un, ok', rv, q⟩ := h
        obtain rfl : v = V.bl true := q
        obtain rfl : u = Value.bool true := rv
        refine ⟨rfl, OldK.of_keep fun b o e => ?_, os, bare⟩
        rcases only b with z | ⟨ob, xs, z⟩
        · exact un.keep b o e z (fun y => absurd (show b ∈ ([] : List Addr) from y) (by simp)) (by simp)
        · have z2 := un.frzs b ob _ z
          have y1 := (ok b _ z).1
          have y2 := (ok' b _ z2).1
          rw [e] at y1; cases y1
          exact y2
  cases found : K.lookup a with
  | some o =>
    have e := inK a o found
    rw [at_] at e
    cases e
    refine main (fun _ => none) (fun _ => .inl rfl) (.inr ⟨_, vs.toArray, _, found, rfl, rfl, rfl, ?_, by simpa using pair⟩) (fun b u z => ?_) (fun b z => absurd rfl z) fun z => absurd rfl z
    · rw [List.size_toArray, many]; exact size
    · cases (show (none : Option HO) = some u from z)
  | none =>
    let hp : Hp := fun b => if b = a then some (.frz { cls := .type "list", data := .seq vs.toArray } (.lst (ns.map V.int))) else none
    have atA : hp a = some (.frz { cls := .type "list", data := .seq vs.toArray } (.lst (ns.map V.int))) := if_pos rfl
    have off : ∀ b, b ≠ a → hp b = none := fun b h => if_neg h
    refine main hp (fun b => ?_) (.inl (.inr ⟨_, atA⟩)) (fun b u z => ?_) (fun b z => ?_) fun _ => found
    · by_cases h : b = a
      · exact .inr ⟨_, _, by rw [h]; exact atA⟩
      · exact .inl (off b h)
    · by_cases h : b = a
      · subst h
        rw [atA] at z
        cases z
        exact ⟨at_, by rw [List.length_map]; exact size, vs, _, pair, at_⟩
      · rw [off b h] at z; cases z
    · by_cases h : b = a
      · exact h
      · exact absurd (off b h) z
/-- the goal that the head leaves, from the law's promise at data -/
theorem walk_dl {l : PySem.W.OpenLaw} {n k : Nat} {q : Program} {loose : List Str} {XP : (Str → Option Value) → Heap → Prop} {YP : World → Heap → Prop} {d : DefRec} {K : Params → PySem.W.Frag} {F : FS} {x : Str}
    (hn : l.most = some n) (hn2 : n ≤ sizeLine) (hdf : d.params.defaults = []) (hr : Room k callerA) (himp : importsNone q = true)
    (hY : ∀ (w : World) (h : Heap), YP w h → (K w.params).In h)
    (hF : ∀ (w : World) (mg : Str → Option Value) (fa : Addr) (h : Heap), (K w.params).In h → h.Ns mainGlobals mg → mg d.name = some (.ref fa) →
      ∃ fd : FuncData, (∀ (s : Shared) (u : Value), BindsTo s fd ⟨[u], []⟩ [(x, u)]) ∧
        ∀ base : Heap, (K w.params).In base → base.Ns mainGlobals mg → base.NoSeer → FnOk l.prog w (K w.params) mg base CX0 k fa fd [x] (spOf (K w.params) F))
    (hsp : ∀ (ns : List Int) (w : Wd), ns.length ≤ n → F [.slst (ns.map .int)] w fun d _ => d = .bl true) :
    PySem.W.WalkO q loose XP YP l.row.toRowW d [] (fun f vs => PySem.call f vs) := by
  refine Att.attach_call hn hdf fun w s0 s1 mg mb fa o pm cd doc a vs ns G Y ho hd hcd hmg hobj hints hlen hg => ?_
  have inK := hY w _ Y
  obtain ⟨fd, hb, hf⟩ := hF w mg fa _ inK G.T.g hmg
  refine law_end inK G.T.g G.T.b G.T.builtins G.T.nolimit (G.T.seer himp) hg hobj hints (Nat.le_trans hlen hn2) hr hf hb fun H sq only => ?_
  refine ⟨fun _ => none, [.slst (ns.map .int)], _, fun a xs z => (by cases z), ?_, hsp ns _ hlen, fun d w' v H' _ _ r z => ?_⟩
  · refine ⟨.ref a, [], rfl, ⟨a, ns.map V.int, rfl, ?_, rds_of_ints ns⟩, rfl⟩
    rcases sq with h | h
    · exact .inl ⟨rfl, h⟩
    · exact .inr h
  · subst z
    exact r
end DL
set_option Elab.async false
set_option linter.all false
set_option maxRecDepth 100000
set_option maxHeartbeats 1000000
/-! DL5: lists of ints, lists of lists of ints; great products. -/
namespace DL
open PySem PySem.Spec PyProof.Rows L2

abbrev dI (ns : List Int) : Dat := .lst (ns.map .int)
abbrev dM (rows : List (List Int)) : List Dat := rows.map fun r => dI r

/-- * of two factors of together less than 134 million bits -/
def CMulX (i j : Int) : Prop := i.natAbs.log2 + j.natAbs.log2 < 134000000
theorem CMulX.ok {i j : Int} (h : CMulX i j) : IntMulOk i j := by
  have bits : ∀ x : Int, Builtin.Int.intBits x ≤ x.natAbs.log2 + 1 := fun x => by
    unfold Builtin.Int.intBits
    split <;> omega
  have b1 := bits i
  have b2 := bits j
  have hh : i.natAbs.log2 + j.natAbs.log2 < 134000000 := h
  have line : bitsLine = 134217728 := by decide
  intro z
  have z2 := (Bool.and_eq_true_iff.mp z).2
  unfold Builtin.Int.intTooBig at z2
  have z3 := of_decide_eq_true z2
  omega
theorem op_mulX {X : Cx} : OpR X (binaryOp .Mult) (rI CMulX fun i j => .int (i * j)) := opI fun _ _ _ _ _ _ _ hc q => mul_int q hc.ok
theorem od_mulX {K : PySem.W.Frag} {w : Wd} {i j : Int} {Q : Dat → Wd → Prop} (hc : CMulX i j) (q : Q (.int (i * j)) w) : OD K (rI CMulX fun i j => .int (i * j)) (.int i) (.int j) w Q := od_I hc q
theorem od_pow {K : PySem.W.Frag} {w : Wd} {i j : Int} {Q : Dat → Wd → Prop} (hc : CPow i j) (q : Q (.int (i ^ j.toNat)) w) : OD K (rI CPow fun i j => .int (i ^ j.toNat)) (.int i) (.int j) w Q := od_I hc q
theorem od_shl {K : PySem.W.Frag} {w : Wd} {i j : Int} {Q : Dat → Wd → Prop} (hc : CPow i j) (q : Q (.int (i * 2 ^ j.toNat)) w) : OD K (rI CPow fun i j => .int (i * 2 ^ j.toNat)) (.int i) (.int j) w Q := od_I hc q

theorem log2_le_of {n a : Nat} (h : n < 2 ^ (a + 1)) : n.log2 ≤ a := by
  by_cases h0 : n = 0
  · subst h0; exact Nat.zero_le _
  · exact Nat.le_of_lt_succ ((Nat.log2_lt h0).mpr h)
theorem mulX_of {i j : Int} {a b : Nat} (ha : i.natAbs < 2 ^ (a + 1)) (hb : j.natAbs < 2 ^ (b + 1)) (h : a + b < 134000000) : CMulX i j := by
  have x := log2_le_of ha
  have y := log2_le_of hb
  unfold CMulX
  omega

section
variable {K : PySem.W.Frag} {ρ : Env} {w : Wd} {Q : Dat → Wd → Prop} {x y : Dat} {i : Int}
theorem ixN_ok {n : Nat} (h0 : 0 ≤ i) (h1 : i < n) : ixN n i = some i.toNat := by
  unfold ixN
  rw [if_pos h0, if_pos h1]
theorem ixN_neg1 {n : Nat} (h : 0 < n) : ixN n (-1) = some (n - 1) := by
  unfold ixN
  rw [if_neg (by decide), if_pos (by omega)]
  congr 1
  omega
/-- xs[i], xs a list of ints; a list of lists of ints; the last one -/
theorem od_ixI {ns : List Int} (s : Sq w x (ns.map .int)) (h0 : 0 ≤ i) (h1 : i < ns.length) (q : Q (.int (ns.getD i.toNat 0)) w) : OD K (rIx K) x (.int i) w Q := by
  refine od_ix s ?_ q
  unfold atI
  rw [ixN_ok h0 (by rw [List.length_map]; exact h1)]
  show (ns.map Dat.int)[i.toNat]? = _
  rw [List.getElem?_map, List.getD_eq_getElem?_getD, List.getElem?_eq_getElem (by omega)]
  rfl
theorem od_ixM {rows : List (List Int)} (s : Sq w x (dM rows)) (h0 : 0 ≤ i) (h1 : i < rows.length) (q : Q (dI (rows.getD i.toNat [])) w) : OD K (rIx K) x (.int i) w Q := by
  refine od_ix s ?_ q
  unfold atI
  rw [ixN_ok h0 (by rw [List.length_map]; exact h1)]
  show (dM rows)[i.toNat]? = _
  rw [List.getElem?_map, List.getD_eq_getElem?_getD, List.getElem?_eq_getElem (by omega)]
  rfl
theorem od_ixLast {ns : List Int} (s : Sq w x (ns.map .int)) (h1 : 0 < ns.length) (q : Q (.int (ns.getD (ns.length - 1) 0)) w) : OD K (rIx K) x (.int (-1)) w Q := by
  refine od_ix s ?_ q
  unfold atI
  rw [ixN_neg1 (by rw [List.length_map]; exact h1), List.length_map]
  show (ns.map Dat.int)[ns.length - 1]? = _
  rw [List.getElem?_map, List.getD_eq_getElem?_getD, List.getElem?_eq_getElem (by omega)]
  rfl
theorem cd_lenI {ns : List Int} (s : Sq w x (ns.map .int)) (q : Q (.int ns.length) w) : CD K (fun xs H Qv => ∃ p ys, xs = [V.ref p] ∧ (SqL K H p ys ∨ SqT K H p ys) ∧ Qv (.int ys.length) H) [x] w Q :=
  cd_len s (by rw [List.length_map]; exact q)
theorem cd_lenM {rows : List (List Int)} (s : Sq w x (dM rows)) (q : Q (.int rows.length) w) : CD K (fun xs H Qv => ∃ p ys, xs = [V.ref p] ∧ (SqL K H p ys ∨ SqT K H p ys) ∧ Qv (.int ys.length) H) [x] w Q :=
  cd_len s (by rw [List.length_map]; exact q)

theorem cut_to {ds : List Dat} {k : Nat} (h : k ≤ ds.length) : cutD ds none (some (k : Int)) = ds.take k := by
  unfold cutD
  rw [HT.sIx_none, HT.sIx_nat, Nat.min_eq_left h, Nat.sub_zero]
  rfl
theorem cut_from {ds : List Dat} {k : Nat} (h : k ≤ ds.length) : cutD ds (some (k : Int)) none = ds.drop k := by
  unfold cutD
  rw [HT.sIx_none, HT.sIx_nat, Nat.min_eq_left h, List.take_of_length_le]
  rw [List.length_drop]
  omega

/-! ### comprehensions whose elements leave the world as it is -/
variable {g : TG} {te : TE} {vs : List Nat}
theorem lc_pure {n : Nat} {w0 : Wd} {p : Addr} {f : Nat → Dat} (hp : w0 p = none) (hn : n ≤ sizeLine) (it : Nat → Dat)
    (h : ∀ (i : Nat) (w' : Wd), i < n → sub w0 w' → GD K g (it i) (wipeD ρ vs) w' fun ρ2 w2 => w2 = w' ∧ XD K te ρ2 w' fun y w3 => w3 = w' ∧ y = f i) :
    ∃ J : Nat → Wd → Prop, J 0 (w0.put p []) ∧ (∀ (i : Nat) (w' : Wd), i < n → J i w' → LcStep K g tYes te ρ vs p J i (it i) w') ∧ ∀ w', J n w' → w' = w0.put p ((List.range n).map f) := by
  refine ⟨fun i w' => w' = w0.put p ((List.range i).map f), rfl, fun i w' hi e => ?_, fun w' e => e⟩
  subst e
  have s : sub w0 (w0.put p ((List.range i).map f)) := sub_put hp
  intro σ H v Qs a b r k
  refine h i _ hi s σ H v Qs a b r fun ρ' w' σ' H' e c er q => k ρ' w' σ' H' e c er ?_
  obtain ⟨rfl, hx⟩ := q
  refine td_yes ⟨fun _ => xd_mono hx fun y w3 q => ?_, fun z => by cases z⟩
  obtain ⟨rfl, rfl⟩ := q
  refine ⟨(List.range i).map f, Wd.put_same, by rw [List.length_map, List.length_range]; omega, ?_⟩
  show (w0.put p ((List.range i).map f)).put p _ = w0.put p ((List.range (i + 1)).map f)
  rw [Wd.put_put, List.range_succ, List.map_append]
  rfl
theorem xd_lcR1P {ar : TA} (gw : GW g vs) (h : AD K ar ρ w fun ds w0 => ∃ n : Int, ds = [.int n] ∧ n ≤ 1000000 ∧ -1000000 ≤ n ∧ ∃ f : Nat → Dat,
    (∀ (i : Nat) (w' : Wd), (i : Int) < n → sub w0 w' → GD K g (.int i) (wipeD ρ vs) w' fun ρ2 w2 => w2 = w' ∧ XD K te ρ2 w' fun y w3 => w3 = w' ∧ y = f i) ∧
    ∀ p, w0 p = none → Q (.obj p) (w0.put p ((List.range n.toNat).map f))) : XD K (tLc (iRng1 ar) g tYes te vs) ρ w Q := by
  refine xd_lcR1 gw (ad_mono h fun ds w0 hq => ?_)
  obtain ⟨n, rfl, h1, h2, f, hs, q⟩ := hq
  refine ⟨n, rfl, by omega, by omega, fun p hp => ?_⟩
  obtain ⟨J, j0, js, je⟩ := lc_pure (n := n.toNat) (f := f) hp (by have : sizeLine = 16777216 := by decide
                                                                   omega) (fun i => .int i) (fun i w' hi s => hs i w' (by omega) s)
  exact ⟨J, j0, fun i w' hi => js i w' (by omega), fun w' hj => by rw [je w' hj]; exact q p hp⟩
theorem xd_lcLP {tl : TE} (gw : GW g vs) (h : XD K tl ρ w fun d w0 => ∃ xs, Fz d xs ∧ xs.length ≤ 1000000 ∧ ∃ f : Nat → Dat,
    (∀ (i : Nat) (x : Dat) (w' : Wd), xs[i]? = some x → sub w0 w' → GD K g x (wipeD ρ vs) w' fun ρ2 w2 => w2 = w' ∧ XD K te ρ2 w' fun y w3 => w3 = w' ∧ y = f i) ∧
    ∀ p, w0 p = none → Q (.obj p) (w0.put p ((List.range xs.length).map f))) : XD K (tLc (iList K tl) g tYes te vs) ρ w Q := by
  refine xd_lcL gw (xd_mono h fun d w0 hq => ?_)
  obtain ⟨xs, hz, h1, f, hs, q⟩ := hq
  refine ⟨xs, hz, fun p hp => ?_⟩
  obtain ⟨J, j0, js, je⟩ := lc_pure (n := xs.length) (f := f) hp (by have : sizeLine = 16777216 := by decide
                                                                     omega) (fun i => xs.getD i .non) (fun i w' hi s => hs i _ w' (by rw [List.getD_eq_getElem?_getD, List.getElem?_eq_getElem hi]; rfl) s)
  refine ⟨J, j0, fun i x w' hx hj => ?_, fun w' hj => by rw [je w' hj]; exact q p hp⟩
  obtain ⟨hi, e⟩ := List.getElem?_eq_some_iff.mp hx
  have := js i w' hi hj
  rw [List.getD_eq_getElem?_getD, hx] at this
  exact this
theorem xd_lcTP {tl : TE} (gw : GW g vs) (h : XD K tl ρ w fun d w0 => ∃ xs, d = .tup xs ∧ xs.length ≤ 1000000 ∧ ∃ f : Nat → Dat,
    (∀ (i : Nat) (x : Dat) (w' : Wd), xs[i]? = some x → sub w0 w' → GD K g x (wipeD ρ vs) w' fun ρ2 w2 => w2 = w' ∧ XD K te ρ2 w' fun y w3 => w3 = w' ∧ y = f i) ∧
    ∀ p, w0 p = none → Q (.obj p) (w0.put p ((List.range xs.length).map f))) : XD K (tLc (iTup K tl) g tYes te vs) ρ w Q := by
  refine xd_lcT gw (xd_mono h fun d w0 hq => ?_)
  obtain ⟨xs, rfl, h1, f, hs, q⟩ := hq
  refine ⟨xs, rfl, fun p hp => ?_⟩
  obtain ⟨J, j0, js, je⟩ := lc_pure (n := xs.length) (f := f) hp (by have : sizeLine = 16777216 := by decide
                                                                     omega) (fun i => xs.getD i .non) (fun i w' hi s => hs i _ w' (by rw [List.getD_eq_getElem?_getD, List.getElem?_eq_getElem hi]; rfl) s)
  refine ⟨J, j0, fun i x w' hx hj => ?_, fun w' hj => by rw [je w' hj]; exact q p hp⟩
  obtain ⟨hi, e⟩ := List.getElem?_eq_some_iff.mp hx
  have := js i w' hi hj
  rw [List.getD_eq_getElem?_getD, hx] at this
  exact this
theorem cd_frz {r : List V → Hp → VK → Prop} {xs : List Dat} (h : CD K r xs w fun d w' => ∃ p ds, d = .obj p ∧ w' p = some ds ∧ Q (.lst ds) (w'.del p)) : CD K r xs w Q := by
  intro H us Qv c r1 k
  refine h H us Qv c r1 fun d w1 v H1 e1 c1 rv hq => ?_
  obtain ⟨p, ds, rfl, hp, q⟩ := hq
  obtain ⟨us, hv, ru⟩ := c1 p ds hp
  have e2 : Ext w1 (w1.del p) H1 H1 := sub_del.ext
  exact k (.lst ds) _ v H1 (e1.trans e2) (c1.sub sub_del) ⟨p, us, rv, ⟨by unfold Wd.del; rw [if_pos rfl], hv⟩, rds_ext e2 ru⟩ q
theorem od_frz {r : R2} (h : OD K r x y w fun d w' => ∃ p ds, d = .obj p ∧ w' p = some ds ∧ Q (.lst ds) (w'.del p)) : OD K r x y w Q := by
  intro H u u' Qv c r1 r2 k
  refine h H u u' Qv c r1 r2 fun d w1 v H1 e1 c1 rv hq => ?_
  obtain ⟨p, ds, rfl, hp, q⟩ := hq
  obtain ⟨us, hv, ru⟩ := c1 p ds hp
  have e2 : Ext w1 (w1.del p) H1 H1 := sub_del.ext
  exact k (.lst ds) _ v H1 (e1.trans e2) (c1.sub sub_del) ⟨p, us, rv, ⟨by unfold Wd.del; rw [if_pos rfl], hv⟩, rds_ext e2 ru⟩ q
theorem cd_listF {ds : List Dat} (s : Sq w x ds) (q : Q (.lst ds) w) : CD K (fun xs H Qv => ∃ p ys, xs = [V.ref p] ∧ (SqL K H p ys ∨ SqT K H p ys) ∧ ∀ l, H l = none → Qv (.ref l) (upd H l (.lst ys))) [x] w Q :=
  cd_frz (cd_list s fun p hp => ⟨p, ds, rfl, Wd.put_same, by rw [Wd.del_put hp]; exact q⟩)
theorem od_catF {ds es : List Dat} (s : SqH w x ds) (s' : SqH w y es) (hl : ds.length + es.length ≤ sizeLine) (q : Q (.lst (ds ++ es)) w) : OD K rCat x y w Q :=
  od_frz (od_cat s s' hl fun p hp => ⟨p, _, rfl, Wd.put_same, by rw [Wd.del_put hp]; exact q⟩)
theorem od_catI {ns ms : List Int} (s : SqH w x (ns.map .int)) (s' : SqH w y (ms.map .int)) (hl : ns.length + ms.length ≤ 1000000) (q : Q (dI (ns ++ ms)) w) : OD K rCat x y w Q :=
  od_catF s s' (by rw [List.length_map, List.length_map]; exact Nat.le_trans hl (by decide)) (by rw [← List.map_append]; exact q)
theorem xd_sliceF {te : TE} {tl th : TO} (h : XD K te ρ w fun d w1 => PD K tl ρ w1 fun lo w2 => PD K th ρ w2 fun hi w3 => ∃ ds, SqD w3 d ds ∧ Q (.lst (cutD ds lo hi)) w3) : XD K (tSl (rSlL K) te tl th) ρ w Q := by
  refine xd_frz (xd_slice (xd_mono h fun d w1 h1 => ?_))
  intro σ H Qv a b k
  refine h1 σ H Qv a b fun lo w2 H2 e2 c2 h2 => k lo w2 H2 e2 c2 ?_
  intro σ H Qv a b k
  refine h2 σ H Qv a b fun hi w3 H3 e3 c3 h3 => k hi w3 H3 e3 c3 ?_
  obtain ⟨ds, s, q⟩ := h3
  exact ⟨ds, s, fun p hp => ⟨p, _, rfl, Wd.put_same, by rw [Wd.del_put hp]; exact q⟩⟩
theorem cutI_to {ns : List Int} {k : Nat} (h : k ≤ ns.length) : cutD (ns.map Dat.int) none (some (k : Int)) = (ns.take k).map Dat.int := by
  rw [cut_to (by rw [List.length_map]; exact h), List.map_take]
theorem cutI_from {ns : List Int} {k : Nat} (h : k ≤ ns.length) : cutD (ns.map Dat.int) (some (k : Int)) none = (ns.drop k).map Dat.int := by
  rw [cut_from (by rw [List.length_map]; exact h), List.map_drop]
/-- a new list as data -/
theorem frz_new {w0 : Wd} {ds : List Dat} {Q : Dat → Wd → Prop} (q : Q (.lst ds) w0) : ∀ p, w0 p = none → ∃ p' es, Dat.obj p = .obj p' ∧ (w0.put p ds) p' = some es ∧ Q (.lst es) ((w0.put p ds).del p') := fun p hp =>
  ⟨p, ds, rfl, Wd.put_same, by rw [Wd.del_put hp]; exact q⟩
end
end DL
set_option Elab.async false
set_option linter.all false
namespace Mat
variable {R : Type} [Lean.Grind.CommRing R]

/-! ### finite sums -/
def sm (f : Nat → R) : Nat → R
  | 0 => 0
  | n + 1 => sm f n + f n
theorem sm_congr {f g : Nat → R} : ∀ {n : Nat}, (∀ k, k < n → f k = g k) → sm f n = sm g n
  | 0, _ => rfl
  | n + 1, h => by
    show sm f n + f n = sm g n + g n
    rw [sm_congr fun k hk => h k (by omega), h n (by omega)]
theorem sm_zero {f : Nat → R} : ∀ {n : Nat}, (∀ k, k < n → f k = 0) → sm f n = 0
  | 0, _ => rfl
  | n + 1, h => by
    show sm f n + f n = 0
    rw [sm_zero fun k hk => h k (by omega), h n (by omega)]
    grind
theorem sm_add {f g : Nat → R} : ∀ {n : Nat}, sm (fun k => f k + g k) n = sm f n + sm g n
  | 0 => by show (0 : R) = 0 + 0; grind
  | n + 1 => by
    show sm (fun k => f k + g k) n + (f n + g n) = (sm f n + f n) + (sm g n + g n)
    rw [sm_add]; grind
theorem sm_mul {f : Nat → R} {c : R} : ∀ {n : Nat}, sm (fun k => c * f k) n = c * sm f n
  | 0 => by show (0 : R) = c * 0; grind
  | n + 1 => by
    show sm (fun k => c * f k) n + c * f n = c * (sm f n + f n)
    rw [sm_mul]; grind
theorem sm_mulr {f : Nat → R} {c : R} {n : Nat} : sm (fun k => f k * c) n = sm f n * c := by
  rw [show sm f n * c = c * sm f n by grind, ← sm_mul]
  exact sm_congr fun k _ => by grind
theorem sm_neg {f : Nat → R} {n : Nat} : sm (fun k => - f k) n = - sm f n := by
  rw [show - sm f n = (-1) * sm f n by grind, ← sm_mul]
  exact sm_congr fun k _ => by grind
theorem sm_sub {f g : Nat → R} {n : Nat} : sm (fun k => f k - g k) n = sm f n - sm g n := by
  rw [show sm f n - sm g n = sm f n + - sm g n by grind, ← sm_neg, ← sm_add]
  exact sm_congr fun k _ => by grind
theorem sm_swap {f : Nat → Nat → R} {m : Nat} : ∀ {n : Nat}, sm (fun i => sm (fun j => f i j) m) n = sm (fun j => sm (fun i => f i j) n) m
  | 0 => by
    rw [show sm (fun i => sm (fun j => f i j) m) 0 = 0 from rfl]
    exact (sm_zero fun k _ => rfl).symm
  | n + 1 => by
    show sm (fun i => sm (fun j => f i j) m) n + sm (fun j => f n j) m = sm (fun j => sm (fun i => f i j) n + f n j) m
    rw [sm_swap, sm_add]
theorem sm_one {f : Nat → R} {p : Nat} : ∀ {n : Nat}, p < n → (∀ k, k < n → k ≠ p → f k = 0) → sm f n = f p
  | 0, hp, _ => by omega
  | n + 1, hp, h => by
    show sm f n + f n = f p
    by_cases e : n = p
    · subst e
      rw [sm_zero fun k hk => h k (by omega) (by omega)]; grind
    · rw [sm_one (by omega) fun k hk => h k (by omega), h n (by omega) e]; grind
theorem sm_two {f : Nat → R} {p q : Nat} : ∀ {n : Nat}, p < n → q < n → p ≠ q → (∀ k, k < n → k ≠ p → k ≠ q → f k = 0) → sm f n = f p + f q
  | 0, hp, _, _, _ => by omega
  | n + 1, hp, hq, hpq, h => by
    show sm f n + f n = f p + f q
    by_cases e : n = p
    · subst e
      rw [sm_one (p := q) (by omega) fun k hk h1 => h k (by omega) (by omega) h1]; grind
    · by_cases e2 : n = q
      · subst e2
        rw [sm_one (p := p) (by omega) fun k hk h1 => h k (by omega) h1 (by omega)]
      · rw [sm_two (by omega) (by omega) hpq fun k hk => h k (by omega), h n (by omega) e e2]; grind
theorem sm_front {f : Nat → R} : ∀ {n : Nat}, sm f (n + 1) = f 0 + sm (fun k => f (k + 1)) n
  | 0 => by show (0 : R) + f 0 = f 0 + 0; grind
  | n + 1 => by
    show sm f (n + 1) + f (n + 1) = f 0 + (sm (fun k => f (k + 1)) n + f (n + 1))
    rw [sm_front]; grind
/-- split at p -/
theorem sm_split {f g : Nat → R} {p : Nat} : ∀ {n : Nat}, p ≤ n → sm (fun q => if q < p then f q else g q) n = sm f p + sm (fun q => g (p + q)) (n - p)
  | 0, h => by
    have e : p = 0 := by omega
    subst e
    show (0 : R) = 0 + 0; grind
  | n + 1, h => by
    by_cases e : p = n + 1
    · subst e
      rw [Nat.sub_self, show sm (fun q => g (n + 1 + q)) 0 = 0 from rfl, sm_congr (g := f) fun k hk => if_pos hk]
      grind
    · have e1 : n + 1 - p = (n - p) + 1 := by omega
      rw [e1]
      show sm (fun q => if q < p then f q else g q) n + (if n < p then f n else g n) = sm f p + (sm (fun q => g (p + q)) (n - p) + g (p + (n - p)))
      rw [sm_split (by omega), if_neg (by omega), show p + (n - p) = n by omega]
      grind
/-- over the triangle, by either side -/
theorem sm_tri {g : Nat → Nat → R} : ∀ {n : Nat}, sm (fun p => sm (fun q => g p (p + q + 1)) (n - p)) (n + 1) = sm (fun r => sm (fun p => g p r) r) (n + 1)
  | 0 => rfl
  | n + 1 => by
    have h : sm (fun p => sm (fun q => g p (p + q + 1)) (n + 1 - p)) (n + 1 + 1) = sm (fun p => sm (fun q => g p (p + q + 1)) (n - p)) (n + 1) + sm (fun p => g p (n + 1)) (n + 1) := by
      show sm (fun p => sm (fun q => g p (p + q + 1)) (n + 1 - p)) (n + 1) + sm (fun q => g (n + 1) (n + 1 + q + 1)) (n + 1 - (n + 1)) = _
      rw [Nat.sub_self, show sm (fun q => g (n + 1) (n + 1 + q + 1)) 0 = 0 from rfl, ← sm_add]
      have : ∀ x : R, x + 0 = x := fun x => by grind
      rw [this]
      refine sm_congr fun p hp => ?_
      rw [show n + 1 - p = (n - p) + 1 by omega]
      show sm (fun q => g p (p + q + 1)) (n - p) + g p (p + (n - p) + 1) = _
      rw [show p + (n - p) + 1 = n + 1 by omega]
    rw [h, sm_tri]
    rfl

/-! ### signs, places -/
def sg (p : Nat) : R := if p % 2 = 0 then 1 else -1
theorem sg_succ (p : Nat) : (sg (p + 1) : R) = - sg p := by
  unfold sg
  by_cases h : p % 2 = 0
  · rw [if_pos h, if_neg (by omega)]
  · rw [if_neg h, if_pos (by omega)]; grind
theorem sg_even {p : Nat} (h : p % 2 = 0) : (sg p : R) = 1 := if_pos h
theorem sg_odd {p : Nat} (h : p % 2 = 1) : (sg p : R) = -1 := if_neg (by omega)
theorem sg_eq {p q : Nat} (h : p % 2 = q % 2) : (sg p : R) = sg q := by unfold sg; rw [h]
theorem sg_add (p q : Nat) : (sg (p + q) : R) = sg p * sg q := by
  unfold sg
  by_cases h : p % 2 = 0 <;> by_cases h2 : q % 2 = 0
  · rw [if_pos h, if_pos h2, if_pos (by omega)]; grind
  · rw [if_pos h, if_neg h2, if_neg (by omega)]; grind
  · rw [if_neg h, if_pos h2, if_neg (by omega)]; grind
  · rw [if_neg h, if_neg h2, if_pos (by omega)]; grind
def skip (p q : Nat) : Nat := if q < p then q else q + 1
theorem skip_ne (p q : Nat) : skip p q ≠ p := by unfold skip; split <;> omega
theorem skip_lt {p q : Nat} (h : q < p) : skip p q = q := if_pos h
theorem skip_ge {p q : Nat} (h : p ≤ q) : skip p q = q + 1 := if_neg (by omega)
theorem skip_le (p q : Nat) : skip p q ≤ q + 1 := by unfold skip; split <;> omega

/-! ### the determinant of n vectors -/
abbrev VL (R : Type) := Nat → Nat → R
def D : Nat → VL R → R
  | 0, _ => 1
  | n + 1, v => sm (fun p => sg (p + n) * v p n * D n (fun q => v (skip p q))) (n + 1)
theorem D_congr : ∀ {n : Nat} {v v' : VL R}, (∀ q, q < n → ∀ c, c < n → v q c = v' q c) → D n v = D n v'
  | 0, _, _, _ => rfl
  | n + 1, v, v', h => by
    refine sm_congr fun p hp => ?_
    rw [h p hp n (by omega), D_congr fun q hq c hc => h (skip p q) (by have := skip_le p q; omega) c (by omega)]
/-- another vector at p -/
def st (v : VL R) (p : Nat) (x : Nat → R) : VL R := fun q => if q = p then x else v q
theorem st_same {v : VL R} {p : Nat} {x : Nat → R} : st v p x p = x := if_pos rfl
theorem st_ne {v : VL R} {p q : Nat} {x : Nat → R} (h : q ≠ p) : st v p x q = v q := if_neg h
/-- where p stands once p' is left out -/
def dn (p' p : Nat) : Nat := if p < p' then p else p - 1
theorem st_skip_same {v : VL R} {p : Nat} {x : Nat → R} : (fun q => st v p x (skip p q)) = fun q => v (skip p q) := by
  funext q
  rw [st_ne (skip_ne p q)]
theorem skip_dn {p' p q : Nat} (h : p ≠ p') : skip p' q = p ↔ q = dn p' p := by
  unfold skip dn
  constructor
  · intro e
    by_cases h1 : q < p'
    · rw [if_pos h1] at e; rw [if_pos (by omega)]; exact e
    · rw [if_neg h1] at e; rw [if_neg (by omega)]; omega
  · intro e
    by_cases h1 : p < p'
    · rw [if_pos h1] at e; subst e; rw [if_pos h1]
    · rw [if_neg h1] at e; subst e; rw [if_neg (by omega)]; omega
theorem st_skip {v : VL R} {p p' : Nat} {x : Nat → R} (h : p ≠ p') : (fun q => st v p x (skip p' q)) = st (fun q => v (skip p' q)) (dn p' p) x := by
  funext q
  unfold st
  by_cases e : skip p' q = p
  · rw [if_pos e, if_pos ((skip_dn h).mp e)]
  · rw [if_neg e, if_neg fun z => e ((skip_dn h).mpr z)]
theorem dn_lt {p p' n : Nat} (h : p ≠ p') (h1 : p < n + 1) (h2 : p' < n + 1) : dn p' p < n := by unfold dn; split <;> omega
theorem D_add {x y : Nat → R} : ∀ {n : Nat} {v : VL R} {p : Nat}, p < n → D n (st v p fun c => x c + y c) = D n (st v p x) + D n (st v p y)
  | 0, _, _, h => by omega
  | n + 1, v, p, h => by
    show sm _ (n + 1) = sm _ (n + 1) + sm _ (n + 1)
    rw [← sm_add]
    refine sm_congr fun p' hp' => ?_
    by_cases e : p = p'
    · subst e
      rw [st_skip_same, st_skip_same, st_skip_same, st_same, st_same, st_same]
      grind
    · rw [st_skip e, st_skip e, st_skip e, st_ne (Ne.symm e), st_ne (Ne.symm e), st_ne (Ne.symm e), D_add (dn_lt e h hp')]
      grind
theorem D_smul {x : Nat → R} {k : R} : ∀ {n : Nat} {v : VL R} {p : Nat}, p < n → D n (st v p fun c => k * x c) = k * D n (st v p x)
  | 0, _, _, h => by omega
  | n + 1, v, p, h => by
    show sm _ (n + 1) = k * sm _ (n + 1)
    rw [← sm_mul]
    refine sm_congr fun p' hp' => ?_
    by_cases e : p = p'
    · subst e
      rw [st_skip_same, st_skip_same, st_same, st_same]
      grind
    · rw [st_skip e, st_skip e, st_ne (Ne.symm e), st_ne (Ne.symm e), D_smul (dn_lt e h hp')]
      grind
theorem D_zero {v : VL R} {p n : Nat} (h : p < n) : D n (st v p fun _ => 0) = 0 := by
  have := D_smul (x := fun _ => (0 : R)) (k := 0) (v := v) h
  rw [show (fun (c : Nat) => (0 : R) * 0) = fun _ => 0 by funext c; grind] at this
  rw [this]; grind
theorem D_sm {f : Nat → Nat → R} {n : Nat} {v : VL R} {p : Nat} (h : p < n) : ∀ {m : Nat}, D n (st v p fun c => sm (fun k => f k c) m) = sm (fun k => D n (st v p (f k))) m
  | 0 => D_zero h
  | m + 1 => by
    show D n (st v p fun c => sm (fun k => f k c) m + f m c) = sm (fun k => D n (st v p (f k))) m + D n (st v p (f m))
    rw [D_add h, D_sm h]
/-- two neighbours alike -/
theorem D_adj : ∀ {n : Nat} {v : VL R} {p : Nat}, p + 1 < n → (∀ c, c < n → v p c = v (p + 1) c) → D n v = 0
  | 0, _, _, h, _ => by omega
  | n + 1, v, p, h, e => by
    show sm _ (n + 1) = 0
    rw [sm_two (p := p) (q := p + 1) (by omega) h (by omega) fun k hk h1 h2 => ?_]
    · have hd : D n (fun q => v (skip p q)) = D n (fun q => v (skip (p + 1) q)) := D_congr fun q hq c hc => by
        by_cases h1 : q < p
        · rw [skip_lt h1, skip_lt (by omega)]
        · by_cases h2 : q = p
          · subst h2
            rw [skip_ge (Nat.le_refl _), skip_lt (by omega)]
            exact (e c (by omega)).symm
          · rw [skip_ge (by omega), skip_ge (by omega)]
      rw [hd, e n (by omega), show p + 1 + n = (p + n) + 1 by omega, sg_succ]
      grind
    · have hd : D n (fun q => v (skip k q)) = 0 := by
        by_cases h3 : k < p
        · refine D_adj (p := p - 1) (by omega) fun c hc => ?_
          rw [skip_ge (by omega), skip_ge (by omega), show p - 1 + 1 = p by omega]
          exact e c (by omega)
        · refine D_adj (p := p) (by omega) fun c hc => ?_
          rw [skip_lt (by omega), skip_lt (by omega)]
          exact e c (by omega)
      rw [hd]; grind
theorem st_comm {v : VL R} {p q : Nat} {x y : Nat → R} (h : p ≠ q) : st (st v p x) q y = st (st v q y) p x := by
  funext r
  unfold st
  by_cases h1 : r = q
  · rw [if_pos h1, if_neg (by omega), if_pos h1]
  · rw [if_neg h1, if_neg h1]
theorem st_st {v : VL R} {p : Nat} {x y : Nat → R} : st (st v p x) p y = st v p y := by
  funext r
  unfold st
  by_cases h1 : r = p
  · rw [if_pos h1, if_pos h1]
  · rw [if_neg h1, if_neg h1, if_neg h1]
theorem st_self {v : VL R} {p : Nat} : st v p (v p) = v := by
  funext r
  unfold st
  by_cases h1 : r = p
  · rw [if_pos h1, h1]
  · rw [if_neg h1]
/-- neighbours exchanged -/
theorem D_swap {n : Nat} {v : VL R} {p : Nat} {x y : Nat → R} (h : p + 1 < n) : D n (st (st v p x) (p + 1) y) = - D n (st (st v p y) (p + 1) x) := by
  have z : D n (st (st v p fun c => x c + y c) (p + 1) fun c => x c + y c) = 0 := D_adj h fun c _ => by
    rw [st_ne (by omega), st_same, st_same]
  have hx : D n (st (st v p x) (p + 1) x) = 0 := D_adj h fun c _ => by rw [st_ne (by omega), st_same, st_same]
  have hy : D n (st (st v p y) (p + 1) y) = 0 := D_adj h fun c _ => by rw [st_ne (by omega), st_same, st_same]
  have sw : ∀ a b : Nat → R, st (st v p a) (p + 1) b = st (st v (p + 1) b) p a := fun a b => st_comm (by omega)
  rw [D_add h, sw, D_add (by omega), ← sw, ← sw, sw _ y, D_add (by omega), ← sw, ← sw] at z
  rw [hx, hy] at z
  grind
/-- any two alike -/
theorem D_two : ∀ (d : Nat) {n : Nat} {v : VL R} {p q : Nat}, q = p + 1 + d → q < n → (∀ c, c < n → v p c = v q c) → D n v = 0
  | 0, n, v, p, q, h, hq, e => by
    subst h
    exact D_adj hq e
  | d + 1, n, v, p, q, h, hq, e => by
    obtain ⟨r, rfl⟩ : ∃ r, q = r + 1 := ⟨q - 1, by omega⟩
    have h1 : v = st (st v r (v r)) (r + 1) (v (r + 1)) := by
      rw [st_self, st_self]
    rw [h1, D_swap hq, D_two d (p := p) (q := r) (by omega) (by omega) fun c hc => ?_]
    · grind
    · rw [st_ne (by omega), st_ne (by omega), st_ne (by omega), st_same]
      exact e c hc
theorem D_same {n : Nat} {v : VL R} {p q : Nat} (hp : p < n) (hq : q < n) (h : p ≠ q) (e : ∀ c, c < n → v p c = v q c) : D n v = 0 := by
  by_cases h1 : p < q
  · exact D_two (q - p - 1) (by omega) hq e
  · exact D_two (p - q - 1) (by omega) hp fun c hc => (e c hc).symm
/-- the unit vectors -/
def ei (p : Nat) : Nat → R := fun c => if c = p then 1 else 0
theorem D_ei : ∀ {n : Nat}, D n (ei : VL R) = 1
  | 0 => rfl
  | n + 1 => by
    show sm _ (n + 1) = 1
    rw [sm_one (p := n) (by omega) fun k hk h => ?_]
    · rw [D_congr (v' := ei) fun q hq c hc => by rw [skip_lt hq], D_ei, sg_even (by omega)]
      unfold ei
      rw [if_pos rfl]; grind
    · unfold ei
      rw [if_neg (by omega)]; grind

/-! ### two coordinates alike -/
/-- the double expansion, by any two families of coefficients -/
def SS (n : Nat) (v : VL R) (a b : Nat → R) : R :=
  sm (fun p => sg (p + (n + 1)) * a p * sm (fun q => sg (q + n) * b (skip p q) * D n (fun r => v (skip p (skip q r)))) (n + 1)) (n + 2)
theorem skip_skip {p r s : Nat} (h : p < r) : skip p (skip (r - 1) s) = skip r (skip p s) := by
  unfold skip
  by_cases h1 : s < p
  · rw [if_pos (show s < r - 1 by omega), if_pos h1, if_pos (by omega)]
  · by_cases h2 : s < r - 1
    · rw [if_pos h2, if_neg h1, if_pos (by omega)]
    · rw [if_neg h2, if_neg h1, if_neg (by omega), if_neg (by omega)]
theorem SS_eq {n : Nat} {v : VL R} {a b : Nat → R} : SS n v a b = sm (fun p => sm (fun q => (a q * b p - a p * b q) * (sg (p + q) * D n (fun r => v (skip p (skip q r))))) p) (n + 2) := by
  have h1 : SS n v a b = sm (fun p => sm (fun q => - (a p * b q * (sg (p + q) * D n (fun r => v (skip p (skip q r)))))) p + sm (fun q => a p * b (p + q + 1) * (sg (p + (p + q + 1)) * D n (fun r => v (skip (p + q + 1) (skip p r))))) (n + 1 - p)) (n + 2) := by
    refine sm_congr fun p hp => ?_
    rw [← sm_mul, sm_congr (g := fun q => if q < p then - (a p * b q * (sg (p + q) * D n (fun r => v (skip p (skip q r))))) else a p * b (q + 1) * (sg (p + (q + 1)) * D n (fun r => v (skip (q + 1) (skip p r))))) fun q hq => ?_]
    · rw [sm_split (g := fun q => a p * b (q + 1) * (sg (p + (q + 1)) * D n (fun r => v (skip (q + 1) (skip p r))))) (by omega)]
    · by_cases h : q < p
      · rw [if_pos h, skip_lt h]
        have e : (sg (p + (n + 1)) : R) * sg (q + n) = - sg (p + q) := by
          rw [← sg_add, show p + (n + 1) + (q + n) = (p + q + (n + n)) + 1 by omega, sg_succ, sg_add (p + q), sg_even (p := n + n) (by omega)]
          grind
        grind
      · rw [if_neg h, skip_ge (by omega)]
        have e : (sg (p + (n + 1)) : R) * sg (q + n) = sg (p + (q + 1)) := by
          rw [← sg_add, show p + (n + 1) + (q + n) = (p + (q + 1)) + (n + n) by omega, sg_add _ (n + n), sg_even (p := n + n) (by omega)]
          grind
        have e2 : (fun r => v (skip p (skip q r))) = fun r => v (skip (q + 1) (skip p r)) := by
          funext r
          rw [← skip_skip (p := p) (r := q + 1) (by omega)]
          rfl
        rw [e2]
        grind
  rw [h1, sm_add, sm_tri (g := fun p r => a p * b r * (sg (p + r) * D n (fun s => v (skip r (skip p s))))), ← sm_add]
  refine sm_congr fun p hp => ?_
  rw [← sm_add]
  refine sm_congr fun q hq => ?_
  rw [show q + p = p + q by omega]
  grind
theorem SS_anti {n : Nat} {v : VL R} {a b : Nat → R} : SS n v a b = - SS n v b a := by
  rw [SS_eq, SS_eq, ← sm_neg]
  refine sm_congr fun p hp => ?_
  rw [← sm_neg]
  exact sm_congr fun q hq => by grind
theorem SS_self {n : Nat} {v : VL R} {a : Nat → R} : SS n v a a = 0 := by
  rw [SS_eq]
  refine sm_zero fun p hp => sm_zero fun q hq => by grind
theorem D_SS {n : Nat} {v : VL R} : D (n + 2) v = SS n v (fun p => v p (n + 1)) (fun p => v p n) := by
  refine sm_congr fun p hp => ?_
  rfl
/-- D of vectors whose last coordinate is a -/
def lastA (n : Nat) (v : VL R) (a : Nat → R) : VL R := fun p c => if c = n then a p else v p c
theorem D_lastA {n : Nat} {v : VL R} {a : Nat → R} : D (n + 1) (lastA n v a) = sm (fun p => sg (p + n) * a p * D n (fun q => v (skip p q))) (n + 1) := by
  refine sm_congr fun p hp => ?_
  show sg (p + n) * (if n = n then a p else v p n) * D n (fun q => lastA n v a (skip p q)) = _
  rw [if_pos rfl, D_congr (v' := fun q => v (skip p q)) fun q hq c hc => by
    show (if c = n then a (skip p q) else v (skip p q) c) = _
    rw [if_neg (by omega)]]
theorem D_col : ∀ {n : Nat} {v : VL R} {c : Nat}, c < n → (∀ p, p < n + 1 → v p n = v p c) → D (n + 1) v = 0
  | 0, _, _, h, _ => by omega
  | n + 1, v, c, h, e => by
    rw [D_SS]
    by_cases hc : c = n
    · subst hc
      have : SS c v (fun p => v p (c + 1)) (fun p => v p c) = SS c v (fun p => v p (c + 1)) (fun p => v p (c + 1)) := by
        refine sm_congr fun p hp => ?_
        rw [sm_congr (g := fun q => sg (q + c) * v (skip p q) (c + 1) * D c (fun r => v (skip p (skip q r)))) fun q hq => by
          rw [e (skip p q) (by have := skip_le p q; omega)]]
      rw [this, SS_self]
    · rw [SS_anti]
      have : SS n v (fun p => v p n) (fun p => v p (n + 1)) = 0 := by
        refine sm_zero fun p hp => ?_
        rw [← D_lastA (v := fun q => v (skip p q)) (a := fun q => v (skip p q) (n + 1)), D_col (c := c) (by omega) fun q hq => ?_]
        · grind
        · show (if n = n then v (skip p q) (n + 1) else _) = (if c = n then _ else v (skip p q) c)
          rw [if_pos rfl, if_neg hc]
          exact e _ (by have := skip_le p q; omega)
      rw [this]; grind

/-! ### Cramer -/
/-- n vectors and one more -/
def snoc (n : Nat) (w : VL R) (u : Nat → R) : VL R := fun q => if q < n then w q else u
theorem D_cycle (u : Nat → R) : ∀ (d : Nat) {n : Nat} {w : VL R} {p : Nat}, p + 1 + d = n → D n (fun q => snoc n w u (skip p q)) = sg d * D n (st w p u)
  | 0, n, w, p, h => by
    rw [sg_even rfl, D_congr (v' := st w p u) fun q hq c hc => ?_]
    · grind
    · by_cases hp : q < p
      · rw [skip_lt hp, st_ne (by omega)]
        unfold snoc
        rw [if_pos hq]
      · rw [skip_ge (by omega), show q = p by omega, st_same]
        unfold snoc
        rw [if_neg (by omega)]
  | d + 1, n, w, p, h => by
    have e1 : D n (fun q => snoc n w u (skip p q)) = D n (fun q => snoc n (st (st w p (w (p + 1))) (p + 1) (w p)) u (skip (p + 1) q)) := D_congr fun q hq c hc => by
      by_cases h1 : q < p
      · rw [skip_lt h1, skip_lt (by omega)]
        unfold snoc
        rw [if_pos hq, if_pos hq, st_ne (by omega), st_ne (by omega)]
      · by_cases h2 : q = p
        · subst h2
          rw [skip_ge (Nat.le_refl _), skip_lt (by omega)]
          unfold snoc
          rw [if_pos (by omega), if_pos hq, st_ne (by omega), st_same]
        · rw [skip_ge (by omega), skip_ge (by omega)]
          unfold snoc
          by_cases h3 : q + 1 < n
          · rw [if_pos h3, if_pos h3, st_ne (by omega), st_ne (by omega)]
          · rw [if_neg h3, if_neg h3]
    have e2 : st w p u = st (st w p u) (p + 1) (w (p + 1)) := by
      funext q
      unfold st
      by_cases h1 : q = p + 1
      · rw [if_neg (by omega), if_pos h1, h1]
      · rw [if_neg h1]
    rw [e1, D_cycle u d (by omega), st_st, sg_succ, e2, D_swap (by omega)]
    grind
theorem cramer {n : Nat} {w : VL R} {u : Nat → R} {c : Nat} (hc : c < n) : D n w * u c = sm (fun p => D n (st w p u) * w p c) n := by
  have z : D (n + 1) (lastA n (snoc n w u) fun p => snoc n w u p c) = 0 := D_col hc fun p hp => by
    show (if n = n then snoc n w u p c else _) = (if c = n then _ else snoc n w u p c)
    rw [if_pos rfl, if_neg (by omega)]
  rw [D_lastA] at z
  have z2 : sm (fun p => sg (p + n) * snoc n w u p c * D n (fun q => snoc n w u (skip p q))) n + sg (n + n) * snoc n w u n c * D n (fun q => snoc n w u (skip n q)) = 0 := z
  rw [sm_congr (g := fun p => - (D n (st w p u) * w p c)) fun p hp => ?_, sm_neg, sg_even (p := n + n) (by omega), D_congr (v := fun q => snoc n w u (skip n q)) (v' := w) fun q hq c hc => ?_] at z2
  · rw [show snoc n w u n c = u c by unfold snoc; rw [if_neg (by omega)]] at z2
    grind
  · rw [skip_lt hq]
    unfold snoc
    rw [if_pos hq]
  · rw [D_cycle u (n - 1 - p) (by omega)]
    have e : (sg (p + n) : R) * sg (n - 1 - p) = -1 := by
      rw [← sg_add]
      exact sg_odd (by omega)
    have e3 : snoc n w u p c = w p c := by unfold snoc; rw [if_pos hp]
    rw [e3]
    grind
end Mat
set_option Elab.async false
set_option linter.all false
namespace Mat

/-! ### over the whole numbers: relations -/
theorem dn_skip (a p : Nat) : dn a (skip a p) = p := by
  by_cases h : p < a
  · rw [skip_lt h]; exact if_pos h
  · rw [skip_ge (by omega)]; exact if_neg (by omega)
/-- a relation among n vectors that is not all zero -/
def Rel (n m : Nat) (v : VL Int) : Prop := ∃ c : Nat → Int, (∃ p, p < n ∧ c p ≠ 0) ∧ ∀ i, i < m → sm (fun p => c p * v p i) n = 0
theorem D_rel {n : Nat} {v : VL Int} (h : Rel n n v) : D n v = 0 := by
  obtain ⟨c, ⟨p, hp, hc⟩, hr⟩ := h
  have e : c p * D n v = 0 := by
    have h1 : D n (st v p fun i => sm (fun q => c q * v q i) n) = 0 := by
      rw [D_congr (v' := st v p fun _ => 0) fun q hq i hi => ?_]
      · exact D_zero hp
      · by_cases h : q = p
        · subst h; rw [st_same, st_same]; exact hr i hi
        · rw [st_ne h, st_ne h]
    rw [D_sm (f := fun q i => c q * v q i) hp, sm_one hp fun q hq hqp => ?_] at h1
    · rw [D_smul hp, st_self] at h1
      exact h1
    · rw [D_smul hp, D_same (p := p) (q := q) hp hq (Ne.symm hqp) fun i hi => ?_]
      · grind
      · rw [st_same, st_ne hqp]
  rcases Int.mul_eq_zero.mp e with h | h
  · exact absurd h hc
  · exact h
/-- more vectors than coordinates -/
theorem rel_of_many : ∀ (m : Nat) (v : VL Int), Rel (m + 1) m v
  | 0, v => ⟨fun _ => 1, ⟨0, by omega, by decide⟩, fun i hi => by omega⟩
  | m + 1, v => by
    by_cases hz : ∀ p, p < m + 2 → v p m = 0
    · obtain ⟨c, ⟨p, hp, hc⟩, hr⟩ := rel_of_many m v
      refine ⟨fun q => if q < m + 1 then c q else 0, ⟨p, by omega, by dsimp only; rw [if_pos hp]; exact hc⟩, fun i hi => ?_⟩
      by_cases h : i = m
      · subst h
        exact sm_zero fun q hq => by rw [hz q hq]; grind
      · show sm (fun q => (if q < m + 1 then c q else 0) * v q i) (m + 1) + (if m + 1 < m + 1 then c (m + 1) else 0) * v (m + 1) i = 0
        rw [if_neg (by omega), sm_congr (g := fun q => c q * v q i) fun q hq => by rw [if_pos hq], hr i (by omega)]
        grind
    · obtain ⟨a, ha⟩ := Classical.not_forall.mp hz
      obtain ⟨ha, hne⟩ := Classical.not_imp.mp ha
      -- eliminate coordinate m by the vector a
      let u : VL Int := fun q i => v a m * v (skip a q) i - v (skip a q) m * v a i
      obtain ⟨c, ⟨p, hp, hc⟩, hr⟩ := rel_of_many m u
      let K : Int := sm (fun q => c q * v (skip a q) m) (m + 1)
      have key : ∀ i, sm (fun q => c q * u q i) (m + 1) = v a m * sm (fun q => c q * v (skip a q) i) (m + 1) - K * v a i := fun i => by
        show _ = _ - sm (fun q => c q * v (skip a q) m) (m + 1) * v a i
        rw [← sm_mul, ← sm_mulr, ← sm_sub]
        exact sm_congr fun q hq => by
          show c q * (v a m * v (skip a q) i - v (skip a q) m * v a i) = _
          grind
      -- sums over all by those that are not a
      have whole : ∀ (g : Nat → Int), sm g (m + 2) = g a + sm (fun q => g (skip a q)) (m + 1) := fun g => by
        have h1 : sm (fun q => g (skip a q)) (m + 1) = sm g a + sm (fun q => g (a + q + 1)) (m + 1 - a) := by
          rw [← sm_split (f := g) (g := fun q => g (q + 1)) (p := a) (n := m + 1) (by omega)]
          refine sm_congr fun q hq => ?_
          by_cases h : q < a
          · rw [skip_lt h, if_pos h]
          · rw [skip_ge (by omega), if_neg h]
        have h2 : sm g (m + 2) = sm g a + sm (fun q => g (a + q)) (m + 2 - a) := by
          rw [← sm_split (f := g) (g := g) (p := a) (n := m + 2) (by omega)]
          refine sm_congr fun q hq => ?_
          by_cases h : q < a
          · rw [if_pos h]
          · rw [if_neg h]
        rw [h1, h2, show m + 2 - a = (m + 1 - a) + 1 by omega, sm_front]
        rw [sm_congr (f := fun k => g (a + (k + 1))) (g := fun q => g (a + q + 1)) fun q _ => by rw [show a + (q + 1) = a + q + 1 by omega]]
        show sm g a + (g (a + 0) + _) = _
        rw [Nat.add_zero]
        grind
      refine ⟨fun q => if q = a then - K else v a m * c (dn a q), ⟨skip a p, by have := skip_le a p; omega, ?_⟩, fun i hi => ?_⟩
      · dsimp only
        rw [if_neg (skip_ne a p), dn_skip a p]
        exact Int.mul_ne_zero hne hc
      · rw [whole]
        show (if a = a then -K else _) * v a i + _ = 0
        rw [if_pos rfl, sm_congr (g := fun q => v a m * (c q * v (skip a q) i)) fun q hq => ?_, sm_mul]
        · by_cases h : i = m
          · subst h
            show -K * v a i + v a i * K = 0
            grind
          · have h1 := hr i (by omega)
            rw [key i] at h1
            grind
        · dsimp only
          rw [if_neg (skip_ne a q), dn_skip a q]
          grind

/-! ### elimination without fractions -/
/-- the first k vectors of a, then unit vectors -/
def W (a : VL Int) (k : Nat) : VL Int := fun p => if p < k then a p else ei p
/-- the i-th entry of row j behind k steps -/
def rr (n : Nat) (a : VL Int) (k j i : Nat) : Int := if i < k then 0 else D n (st (W a k) i (a j))
def dd (n : Nat) (a : VL Int) (k : Nat) : Int := D n (W a k)
theorem dd_zero {n : Nat} {a : VL Int} : dd n a 0 = 1 := by
  unfold dd
  rw [show W a 0 = ei by funext p; unfold W; rw [if_neg (by omega)]]
  exact D_ei
theorem W_succ {a : VL Int} {k : Nat} : W a (k + 1) = st (W a k) k (a k) := by
  funext p
  unfold W st
  by_cases h : p = k
  · subst h; rw [if_pos (by omega), if_pos rfl]
  · rw [if_neg h]
    by_cases h1 : p < k
    · dsimp only
      rw [if_pos (by omega), if_pos h1]
    · dsimp only
      rw [if_neg (by omega), if_neg h1]
theorem dd_succ {n : Nat} {a : VL Int} {k : Nat} : dd n a (k + 1) = rr n a k k k := by
  unfold dd rr
  rw [if_neg (by omega), W_succ]
theorem dd_all {n : Nat} {a : VL Int} : dd n a n = D n a := D_congr fun q hq c hc => by unfold W; rw [if_pos hq]
theorem rr_zero {n : Nat} {a : VL Int} {j i : Nat} (hi : i < n) : rr n a 0 j i = a j i := by
  unfold rr
  rw [if_neg (by omega)]
  have e : W a 0 = ei := by funext p; unfold W; rw [if_neg (by omega)]
  have c := cramer (n := n) (w := (ei : VL Int)) (u := a j) hi
  rw [D_ei, sm_one hi fun k hk h => by
    have : (ei k : Nat → Int) i = 0 := if_neg (by omega)
    rw [this]; grind] at c
  rw [e]
  have : (ei i : Nat → Int) i = 1 := if_pos rfl
  rw [this] at c
  grind
/-- one step -/
theorem rr_step {n : Nat} {a : VL Int} {k j i : Nat} (hk : k < n) (hi : i < n) : rr n a (k + 1) j i * dd n a k = rr n a k j i * rr n a k k k - rr n a k j k * rr n a k k i := by
  by_cases h1 : i < k
  · unfold rr
    rw [if_pos (show i < k + 1 by omega), if_pos h1, if_pos h1]
    grind
  · by_cases h2 : i = k
    · subst h2
      have : rr n a (i + 1) j i = 0 := if_pos (by omega)
      rw [this]
      grind
    · have e1 : ∀ j, rr n a k j i = D n (st (W a k) i (a j)) := fun j => if_neg h1
      have e2 : ∀ j, rr n a k j k = D n (st (W a k) k (a j)) := fun j => if_neg (by omega)
      have e3 : rr n a (k + 1) j i = D n (st (st (W a k) k (a k)) i (a j)) := by
        unfold rr
        rw [if_neg (by omega), W_succ]
      rw [e1, e1, e2, e2, e3]
      -- d u = sum of D(w[p := u]) w p
      have key : dd n a k * D n (st (st (W a k) i (a j)) k (a k)) = sm (fun p => D n (st (W a k) p (a k)) * D n (st (st (W a k) i (a j)) k (W a k p))) n := by
        rw [← D_smul hk]
        have e4 : D n (st (st (W a k) i (a j)) k fun c => dd n a k * a k c) = D n (st (st (W a k) i (a j)) k fun c => sm (fun p => D n (st (W a k) p (a k)) * W a k p c) n) := D_congr fun q hq c hc => by
          by_cases h : q = k
          · subst h; rw [st_same, st_same]; exact cramer hc
          · rw [st_ne h, st_ne h]
        rw [e4, D_sm (f := fun p c => D n (st (W a k) p (a k)) * W a k p c) hk]
        exact sm_congr fun p hp => D_smul hk
      rw [sm_two (p := k) (q := i) hk hi (by omega) fun p hp hpk hpi => ?_] at key
      · have e5 : st (st (W a k) k (a k)) i (a j) = st (st (W a k) i (a j)) k (a k) := st_comm (by omega)
        have e6 : st (st (W a k) i (a j)) k (W a k k) = st (W a k) i (a j) := by
          rw [← st_comm (v := W a k) (p := k) (q := i) (by omega), st_self]
        have e7 : D n (st (st (W a k) i (a j)) k (W a k i)) = - D n (st (W a k) k (a j)) := by
          -- exchange places i and k of the vectors
          have z : D n (st (st (W a k) i fun c => a j c + W a k i c) k fun c => a j c + W a k i c) = 0 := D_same (p := i) (q := k) hi hk (by omega) fun c _ => by
            rw [st_ne (by omega), st_same, st_same]
          have sw : ∀ x y : Nat → Int, st (st (W a k) i x) k y = st (st (W a k) k y) i x := fun x y => st_comm (by omega)
          have za : ∀ x : Nat → Int, D n (st (st (W a k) i x) k x) = 0 := fun x => D_same (p := i) (q := k) hi hk (by omega) fun c _ => by
            rw [st_ne (by omega), st_same, st_same]
          rw [D_add hk, sw, D_add hi, ← sw, ← sw, sw _ (W a k i), D_add hi, ← sw, ← sw, za, za] at z
          have e8 : st (st (W a k) i (W a k i)) k (a j) = st (W a k) k (a j) := by rw [st_self]
          rw [e8] at z
          grind
        rw [e6, e7] at key
        rw [e5]
        grind
      · have z : D n (st (st (W a k) i (a j)) k (W a k p)) = 0 := D_same (p := p) (q := k) hp hk hpk fun c _ => by
          rw [st_ne hpk, st_ne hpi, st_same]
        rw [z]
        grind
/-- where no row has an entry at the step's place, the vectors depend on each other -/
theorem rr_rel {n : Nat} {a : VL Int} {k : Nat} (hk : k < n) (hd : dd n a k ≠ 0) (h : ∀ j, k ≤ j → j < n → rr n a k j k = 0) : Rel n n a := by
  -- the rows from k on, as vectors of the coordinates behind k
  obtain ⟨c, ⟨p, hp, hc⟩, hr⟩ := rel_of_many (n - k - 1) fun q i => rr n a k (k + q) (k + 1 + i)
  have hn : n - k - 1 + 1 = n - k := by omega
  rw [hn] at hp hr
  -- d times their sum is a sum of the first k vectors
  let S : Nat → Int := fun i => sm (fun q => c q * a (k + q) i) (n - k)
  have zero : ∀ i, k ≤ i → i < n → sm (fun q => c q * rr n a k (k + q) i) (n - k) = 0 := fun i h1 h2 => by
    by_cases e : i = k
    · subst e
      exact sm_zero fun q hq => by rw [h _ (by omega) (by omega)]; grind
    · have z : sm (fun p => c p * rr n a k (k + p) (k + 1 + (i - k - 1))) (n - k) = 0 := hr (i - k - 1) (by omega)
      rw [show k + 1 + (i - k - 1) = i by omega] at z
      exact z
  have dS : ∀ i, i < n → dd n a k * S i = sm (fun t => sm (fun q => c q * D n (st (W a k) t (a (k + q)))) (n - k) * a t i) k := fun i hi => by
    have h1 : dd n a k * S i = sm (fun q => c q * (dd n a k * a (k + q) i)) (n - k) := by
      show dd n a k * sm (fun q => c q * a (k + q) i) (n - k) = _
      rw [← sm_mul]
      exact sm_congr fun q _ => by grind
    rw [h1, sm_congr (g := fun q => sm (fun t => c q * D n (st (W a k) t (a (k + q))) * W a k t i) n) fun q hq => ?_, sm_swap]
    · rw [sm_congr (g := fun t => if t < k then sm (fun q => c q * D n (st (W a k) t (a (k + q)))) (n - k) * a t i else (fun _ => (0 : Int)) t) fun t ht => ?_, sm_split (by omega), sm_zero fun q _ => rfl]
      · grind
      · by_cases h2 : t < k
        · rw [if_pos h2, ← sm_mulr]
          exact sm_congr fun q hq => by
            have : W a k t i = a t i := by unfold W; rw [if_pos h2]
            rw [this]
        · rw [if_neg h2]
          have z := zero t (by omega) ht
          rw [sm_congr (g := fun q => c q * rr n a k (k + q) t * W a k t i) fun q hq => by
            unfold rr
            rw [if_neg h2], sm_mulr, z]
          grind
    · show c q * (D n (W a k) * a (k + q) i) = _
      rw [cramer hi, ← sm_mul]
      exact sm_congr fun t _ => by grind
  refine ⟨fun t => if t < k then - sm (fun q => c q * D n (st (W a k) t (a (k + q)))) (n - k) else dd n a k * c (t - k), ⟨k + p, by omega, ?_⟩, fun i hi => ?_⟩
  · dsimp only
    rw [if_neg (by omega), show k + p - k = p by omega]
    exact Int.mul_ne_zero hd hc
  · dsimp only
    rw [sm_congr (g := fun t => if t < k then - (sm (fun q => c q * D n (st (W a k) t (a (k + q)))) (n - k) * a t i) else dd n a k * c (t - k) * a t i) fun t ht => by
      by_cases h2 : t < k
      · rw [if_pos h2, if_pos h2]; grind
      · rw [if_neg h2, if_neg h2], sm_split (g := fun t => dd n a k * c (t - k) * a t i) (by omega), sm_neg, ← dS i hi]
    rw [sm_congr (f := fun q => dd n a k * c (k + q - k) * a (k + q) i) (g := fun q => dd n a k * (c q * a (k + q) i)) fun q _ => by
      rw [show k + q - k = q by omega]; grind, sm_mul]
    show - (dd n a k * S i) + dd n a k * S i = 0
    grind

theorem rr_stuck {n : Nat} {a : VL Int} {k : Nat} (hk : k < n) (hd : dd n a k ≠ 0) (h : ∀ j, k ≤ j → j < n → rr n a k j k = 0) : D n a = 0 := D_rel (rr_rel hk hd h)

/-! ### sizes -/
theorem D_size {B : Nat} : ∀ {n : Nat} {v : VL Int}, (∀ p, p < n → ∀ c, c < n → (v p c).natAbs ≤ B) → (D n v).natAbs ≤ n ^ n * B ^ n
  | 0, _, _ => by
    show (1 : Int).natAbs ≤ 0 ^ 0 * B ^ 0
    simp
  | n + 1, v, h => by
    have each : ∀ p, p < n + 1 → (sg (p + n) * v p n * D n (fun q => v (skip p q))).natAbs ≤ B * ((n + 1) ^ n * B ^ n) := fun p hp => by
      have h1 : ((sg (p + n) : Int) * v p n).natAbs ≤ B := by
        rw [Int.natAbs_mul]
        have : (sg (p + n) : Int).natAbs = 1 := by unfold sg; split <;> rfl
        rw [this, Nat.one_mul]
        exact h p hp n (by omega)
      have h2 : (D n (fun q => v (skip p q))).natAbs ≤ n ^ n * B ^ n := D_size fun q hq c hc => h _ (by have := skip_le p q; omega) c (by omega)
      rw [Int.natAbs_mul]
      exact Nat.mul_le_mul h1 (Nat.le_trans h2 (Nat.mul_le_mul_right _ (Nat.pow_le_pow_left (by omega) n)))
    have sum : ∀ (f : Nat → Int) (C m : Nat), (∀ p, p < m → (f p).natAbs ≤ C) → (sm f m).natAbs ≤ m * C := by
      intro f C m
      induction m with
      | zero => intro _; show (0 : Int).natAbs ≤ _; simp
      | succ m ih =>
        intro hf
        show (sm f m + f m).natAbs ≤ (m + 1) * C
        have a1 := ih fun p hp => hf p (by omega)
        have a2 := hf m (by omega)
        have a3 := Int.natAbs_add_le (sm f m) (f m)
        rw [Nat.add_mul, Nat.one_mul]
        omega
    refine Nat.le_trans (sum _ _ _ each) (Nat.le_of_eq ?_)
    rw [Nat.pow_succ (n + 1) n, Nat.pow_succ B n]
    grind
theorem rr_size {n B : Nat} {a : VL Int} (hB : 1 ≤ B) (h : ∀ p, p < n → ∀ c, c < n → (a p c).natAbs ≤ B) {k j i : Nat} (hj : j < n) : (rr n a k j i).natAbs ≤ n ^ n * B ^ n := by
  unfold rr
  split
  · simp
  · refine D_size fun p hp c hc => ?_
    by_cases e : p = i
    · subst e; rw [st_same]; exact h j hj c hc
    · rw [st_ne e]
      unfold W
      split
      · exact h p hp c hc
      · unfold ei
        split
        · exact hB
        · simp
theorem dd_size {n B : Nat} {a : VL Int} (hB : 1 ≤ B) (h : ∀ p, p < n → ∀ c, c < n → (a p c).natAbs ≤ B) {k : Nat} : (dd n a k).natAbs ≤ n ^ n * B ^ n := by
  refine D_size fun p hp c hc => ?_
  unfold W
  split
  · exact h p hp c hc
  · unfold ei
    split
    · exact hB
    · simp
/-- two vectors exchanged -/
theorem D_exch {n : Nat} {v : VL Int} {p q : Nat} (hp : p < n) (hq : q < n) (h : p ≠ q) : D n (st (st v p (v q)) q (v p)) = - D n v := by
  have sw : ∀ x y : Nat → Int, st (st v p x) q y = st (st v q y) p x := fun x y => st_comm h
  have za : ∀ x : Nat → Int, D n (st (st v p x) q x) = 0 := fun x => D_same (p := p) (q := q) hp hq h fun c _ => by
    rw [st_ne h, st_same, st_same]
  have z := za fun c => v p c + v q c
  rw [D_add hq, sw, D_add hp, ← sw, ← sw, sw _ (v q), D_add hp, ← sw, ← sw, za, za] at z
  have e : st (st v p (v p)) q (v q) = v := by rw [st_self, st_self]
  rw [e] at z
  grind
/-- exchanged places -/
def xc (p q t : Nat) : Nat := if t = p then q else if t = q then p else t
def ex (a : VL Int) (p q : Nat) : VL Int := fun t => a (xc p q t)
theorem ex_st {a : VL Int} {p q : Nat} (h : p ≠ q) : ex a p q = st (st a p (a q)) q (a p) := by
  funext t
  unfold ex xc
  by_cases h1 : t = p
  · subst h1; rw [if_pos rfl, st_ne h, st_same]
  · rw [if_neg h1]
    by_cases h2 : t = q
    · subst h2; rw [if_pos rfl, st_same]
    · rw [if_neg h2, st_ne h2, st_ne h1]
theorem sm_xc {f : Nat → Int} {n p q : Nat} (hp : p < n) (hq : q < n) (h : p ≠ q) : sm (fun t => f (xc p q t)) n = sm f n := by
  have e : sm (fun t => f (xc p q t) - f t) n = 0 := by
    rw [sm_two (p := p) (q := q) hp hq h fun k _ h1 h2 => ?_]
    · have e1 : xc p q p = q := if_pos rfl
      have e2 : xc p q q = p := by unfold xc; rw [if_neg (Ne.symm h), if_pos rfl]
      rw [e1, e2]; grind
    · have e3 : xc p q k = k := by unfold xc; rw [if_neg h1, if_neg h2]
      rw [e3]; grind
  rw [sm_sub] at e
  grind
theorem rel_ex {n m p q : Nat} {a : VL Int} (hp : p < n) (hq : q < n) (h : p ≠ q) (r : Rel n m (ex a p q)) : Rel n m a := by
  obtain ⟨c, ⟨t, ht, hc⟩, hr⟩ := r
  have inv : ∀ t, xc p q (xc p q t) = t := fun t => by
    unfold xc
    by_cases h1 : t = p
    · subst h1
      rw [if_pos rfl]
      by_cases h2 : q = t
      · exact absurd h2.symm h
      · rw [if_neg h2, if_pos rfl]
    · rw [if_neg h1]
      by_cases h2 : t = q
      · subst h2; rw [if_pos rfl, if_pos rfl]
      · rw [if_neg h2, if_neg h1, if_neg h2]
  have lt : ∀ t, t < n → xc p q t < n := fun t h => by
    unfold xc
    split
    · exact hq
    · split
      · exact hp
      · exact h
  refine ⟨fun t => c (xc p q t), ⟨xc p q t, lt t ht, by dsimp only; rw [inv]; exact hc⟩, fun i hi => ?_⟩
  have z := hr i hi
  rw [← sm_xc hp hq h] at z
  rw [← z]
  exact sm_congr fun t _ => by
    show c (xc p q t) * a t i = c (xc p q t) * a (xc p q (xc p q t)) i
    rw [inv]
/-- no value: a relation -/
theorem rel_of_D : ∀ (m k : Nat) {n : Nat} {a : VL Int}, k + m = n → dd n a k ≠ 0 → D n a = 0 → Rel n n a
  | 0, k, n, a, e, hd, z => by
    rw [show k = n by omega, dd_all] at hd
    exact absurd z hd
  | m + 1, k, n, a, e, hd, z => by
    by_cases hz : ∀ j, k ≤ j → j < n → rr n a k j k = 0
    · exact rr_rel (by omega) hd hz
    · obtain ⟨j, hj⟩ := Classical.not_forall.mp hz
      obtain ⟨h1, hj⟩ := Classical.not_imp.mp hj
      obtain ⟨h2, hj⟩ := Classical.not_imp.mp hj
      by_cases h : j = k
      · subst h
        exact rel_of_D m (j + 1) (by omega) (by rw [dd_succ]; exact hj) z
      · refine rel_ex (p := k) (q := j) (by omega) h2 (Ne.symm h) (rel_of_D m (k + 1) (by omega) ?_ ?_)
        · rw [dd_succ]
          have e1 : W (ex a k j) k = W a k := by
            funext t
            unfold W
            by_cases ht : t < k
            · rw [if_pos ht, if_pos ht]
              show a (xc k j t) = a t
              unfold xc
              rw [if_neg (by omega), if_neg (by omega)]
            · rw [if_neg ht, if_neg ht]
          have e2 : ex a k j k = a j := by
            show a (xc k j k) = a j
            unfold xc
            rw [if_pos rfl]
          have e3 : rr n (ex a k j) k k k = rr n a k j k := by
            unfold rr
            rw [e1, e2]
          rw [e3]
          exact hj
        · rw [ex_st (Ne.symm h), D_exch (by omega) h2 (Ne.symm h), z]
          rfl
theorem rel_of_det {n : Nat} {a : VL Int} (z : D n a = 0) : Rel n n a := rel_of_D n 0 (by omega) (by rw [dd_zero]; decide) z
end Mat
set_option Elab.async false
set_option linter.all false
namespace Mat

/-! ### sums once more -/
theorem sm_skip {R : Type} [Lean.Grind.CommRing R] {g : Nat → R} {m a : Nat} (ha : a < m + 1) : sm g (m + 1) = g a + sm (fun q => g (skip a q)) m := by
  have h1 : sm (fun q => g (skip a q)) m = sm g a + sm (fun q => g (a + q + 1)) (m - a) := by
    rw [← sm_split (f := g) (g := fun q => g (q + 1)) (p := a) (n := m) (by omega)]
    refine sm_congr fun q hq => ?_
    by_cases h : q < a
    · rw [skip_lt h, if_pos h]
    · rw [skip_ge (by omega), if_neg h]
  have h2 : sm g (m + 1) = sm g a + sm (fun q => g (a + q)) (m + 1 - a) := by
    rw [← sm_split (f := g) (g := g) (p := a) (n := m + 1) (by omega)]
    refine sm_congr fun q hq => ?_
    by_cases h : q < a
    · rw [if_pos h]
    · rw [if_neg h]
  rw [h1, h2, show m + 1 - a = (m - a) + 1 by omega, sm_front]
  rw [sm_congr (f := fun k => g (a + (k + 1))) (g := fun q => g (a + q + 1)) fun q _ => by rw [show a + (q + 1) = a + q + 1 by omega]]
  show sm g a + (g (a + 0) + _) = _
  rw [Nat.add_zero]
  grind

/-! ### power series with whole coefficients -/
def PS : Type := Nat → Int
namespace PS
def tail (f : PS) : PS := fun n => f (n + 1)
def cst (c : Int) : PS := fun n => if n = 0 then c else 0
def mulA : PS → PS → Nat → Int
  | f, g, 0 => f 0 * g 0
  | f, g, n + 1 => f 0 * g (n + 1) + mulA (tail f) g n
def add (f g : PS) : PS := fun n => f n + g n
def neg (f : PS) : PS := fun n => - f n
def mul (f g : PS) : PS := fun n => mulA f g n
theorem mul_add_ (n : Nat) : ∀ f g h : PS, mulA f (add g h) n = mulA f g n + mulA f h n := by
  induction n with
  | zero => intro f g h; show f 0 * (g 0 + h 0) = f 0 * g 0 + f 0 * h 0; grind
  | succ n ih =>
    intro f g h
    show f 0 * (g (n + 1) + h (n + 1)) + mulA (tail f) (add g h) n = (f 0 * g (n + 1) + mulA (tail f) g n) + (f 0 * h (n + 1) + mulA (tail f) h n)
    rw [ih]; grind
theorem add_mul_ (n : Nat) : ∀ f g h : PS, mulA (add f g) h n = mulA f h n + mulA g h n := by
  induction n with
  | zero => intro f g h; show (f 0 + g 0) * h 0 = f 0 * h 0 + g 0 * h 0; grind
  | succ n ih =>
    intro f g h
    show (f 0 + g 0) * h (n + 1) + mulA (add (tail f) (tail g)) h n = (f 0 * h (n + 1) + mulA (tail f) h n) + (g 0 * h (n + 1) + mulA (tail g) h n)
    rw [ih]; grind
theorem cmul_ (c : Int) (n : Nat) : ∀ f g : PS, mulA (fun k => c * f k) g n = c * mulA f g n := by
  induction n with
  | zero => intro f g; show c * f 0 * g 0 = c * (f 0 * g 0); grind
  | succ n ih =>
    intro f g
    show c * f 0 * g (n + 1) + mulA (fun k => c * tail f k) g n = c * (f 0 * g (n + 1) + mulA (tail f) g n)
    rw [ih]; grind
theorem comm_ (n : Nat) : ∀ f g : PS, mulA f g n = mulA g f n ∧ (∀ m, m ≤ n → mulA f g m = mulA g f m) := by
  induction n with
  | zero =>
    intro f g
    have e : mulA f g 0 = mulA g f 0 := by show f 0 * g 0 = g 0 * f 0; grind
    exact ⟨e, fun m hm => by rw [show m = 0 by omega]; exact e⟩
  | succ n ih =>
    intro f g
    have e : mulA f g (n + 1) = mulA g f (n + 1) := by
      show f 0 * g (n + 1) + mulA (tail f) g n = g 0 * f (n + 1) + mulA (tail g) f n
      rw [(ih (tail f) g).1, (ih (tail g) f).1]
      cases n with
      | zero =>
        show f 0 * g 1 + g 0 * f 1 = g 0 * f 1 + f 0 * g 1
        grind
      | succ n =>
        show f 0 * g (n + 2) + (g 0 * f (n + 2) + mulA (tail g) (tail f) n) = g 0 * f (n + 2) + (f 0 * g (n + 2) + mulA (tail f) (tail g) n)
        rw [(ih (tail g) (tail f)).2 n (by omega)]
        grind
    refine ⟨e, fun m hm => ?_⟩
    by_cases h : m = n + 1
    · rw [h]; exact e
    · exact (ih f g).2 m (by omega)
theorem tail_mul (f g : PS) : tail (mul f g) = add (fun k => f 0 * tail g k) (mul (tail f) g) := rfl
theorem assoc_ (n : Nat) : ∀ f g h : PS, mulA (mul f g) h n = mulA f (mul g h) n := by
  induction n with
  | zero => intro f g h; show f 0 * g 0 * h 0 = f 0 * (g 0 * h 0); grind
  | succ n ih =>
    intro f g h
    show f 0 * g 0 * h (n + 1) + mulA (add (fun k => f 0 * tail g k) (mul (tail f) g)) h n = f 0 * (g 0 * h (n + 1) + mulA (tail g) h n) + mulA (tail f) (mul g h) n
    have h1 := add_mul_ n (fun k => f 0 * tail g k) (mul (tail f) g) h
    have h2 := cmul_ (f 0) n (tail g) h
    have h3 := ih (tail f) g h
    rw [h1, h2, h3]; grind
theorem cst_mul_ (c : Int) (n : Nat) (g : PS) : mulA (cst c) g n = c * g n := by
  cases n with
  | zero => rfl
  | succ n =>
    show c * g (n + 1) + mulA (tail (cst c)) g n = c * g (n + 1)
    have z : tail (cst c) = fun k => 0 * tail (cst c) k := by
      funext k
      show (if k + 1 = 0 then c else 0) = 0 * _
      rw [if_neg (by omega)]; grind
    rw [z, cmul_]; grind
def pw (f : PS) : Nat → PS
  | 0 => cst 1
  | n + 1 => mul (pw f n) f
instance : Lean.Grind.CommRing PS where
  add := add
  mul := mul
  neg := neg
  sub f g := add f (neg g)
  ofNat n := ⟨cst (OfNat.ofNat n)⟩
  natCast := ⟨fun n => cst n⟩
  intCast := ⟨cst⟩
  nsmul := ⟨fun n f => mul (cst n) f⟩
  zsmul := ⟨fun i f => mul (cst i) f⟩
  npow := ⟨pw⟩
  add_zero f := by
    funext n
    show f n + (if n = 0 then (0 : Int) else 0) = f n
    split <;> grind
  add_comm f g := by funext n; show f n + g n = g n + f n; grind
  add_assoc f g h := by funext n; show f n + g n + h n = f n + (g n + h n); grind
  mul_assoc f g h := by funext n; exact assoc_ n f g h
  mul_one f := by
    funext n
    show mulA f (cst 1) n = f n
    rw [(comm_ n f (cst 1)).1, cst_mul_]; grind
  one_mul f := by
    funext n
    show mulA (cst 1) f n = f n
    rw [cst_mul_]; grind
  left_distrib f g h := by funext n; exact mul_add_ n f g h
  right_distrib f g h := by funext n; exact add_mul_ n f g h
  zero_mul f := by
    funext n
    show mulA (cst 0) f n = (if n = 0 then (0 : Int) else 0)
    rw [cst_mul_]; split <;> grind
  mul_zero f := by
    funext n
    show mulA f (cst 0) n = (if n = 0 then (0 : Int) else 0)
    rw [(comm_ n f (cst 0)).1, cst_mul_]; split <;> grind
  pow_zero f := rfl
  pow_succ f n := rfl
  ofNat_succ n := by
    funext k
    show (if k = 0 then ((n + 1 : Nat) : Int) else 0) = (if k = 0 then (n : Int) else 0) + (if k = 0 then (1 : Int) else 0)
    split <;> grind
  neg_add_cancel f := by
    funext n
    show - f n + f n = (if n = 0 then (0 : Int) else 0)
    split <;> grind
  sub_eq_add_neg f g := rfl
  neg_zsmul i f := by
    funext n
    show mulA (cst (-i)) f n = - mulA (cst i) f n
    rw [cst_mul_, cst_mul_]; grind
  zsmul_natCast_eq_nsmul n f := rfl
  intCast_neg i := by
    funext n
    show (if n = 0 then -i else 0) = - (if n = 0 then i else 0)
    split <;> grind
  mul_comm f g := by funext n; exact (comm_ n f g).1

theorem coe_add (f g : PS) (n : Nat) : (f + g) n = f n + g n := rfl
theorem coe_neg (f : PS) (n : Nat) : (- f) n = - f n := rfl
theorem coe_sub (f g : PS) (n : Nat) : (f - g) n = f n - g n := rfl
theorem coe_zero (n : Nat) : (0 : PS) n = 0 := by
  show (if n = 0 then (0 : Int) else 0) = 0
  split <;> rfl
theorem coe_one_zero : (1 : PS) 0 = 1 := rfl
theorem coe_one_succ (n : Nat) : (1 : PS) (n + 1) = 0 := rfl
theorem coe_sm {f : Nat → PS} {m n : Nat} : (sm f m : PS) n = sm (fun k => f k n) m := by
  induction m with
  | zero => exact coe_zero n
  | succ m ih =>
    show (sm f m + f m) n = sm (fun k => f k n) m + f m n
    rw [coe_add, ih]
theorem coe_cst_mul (c : Int) (g : PS) (n : Nat) : (cst c * g) n = c * g n := cst_mul_ c n g
theorem mul_zero_at (f g : PS) : (f * g) 0 = f 0 * g 0 := rfl
theorem mul_succ_at (f g : PS) (n : Nat) : (f * g) (n + 1) = f 0 * g (n + 1) + (tail f * g) n := rfl
/-- the letter -/
def X : PS := fun n => if n = 1 then 1 else 0
theorem tail_X : tail X = 1 := by
  funext n
  show (if n + 1 = 1 then (1 : Int) else 0) = (if n = 0 then (1 : Int) else 0)
  by_cases h : n = 0
  · rw [if_pos h, if_pos (by omega)]
  · rw [if_neg h, if_neg (by omega)]
theorem X_mul_zero (f : PS) : (X * f) 0 = 0 := by
  rw [mul_zero_at]
  show (if (0 : Nat) = 1 then (1 : Int) else 0) * f 0 = 0
  rw [if_neg (by omega)]; grind
theorem X_mul_succ (f : PS) (n : Nat) : (X * f) (n + 1) = f n := by
  rw [mul_succ_at, tail_X]
  show (if (0 : Nat) = 1 then (1 : Int) else 0) * f (n + 1) + (1 * f) n = f n
  rw [if_neg (by omega), show (1 : PS) * f = f by grind]; grind

/-! ### weights by place: a derivation -/
def th (f : PS) : PS := fun n => (n : Int) * f n
theorem th_mulA (n : Nat) : ∀ f g : PS, (n : Int) * mulA f g n = mulA (th f) g n + mulA f (th g) n := by
  induction n with
  | zero =>
    intro f g
    show ((0 : Nat) : Int) * (f 0 * g 0) = ((0 : Nat) : Int) * f 0 * g 0 + f 0 * (((0 : Nat) : Int) * g 0)
    grind
  | succ n ih =>
    intro f g
    show ((n + 1 : Nat) : Int) * (f 0 * g (n + 1) + mulA (tail f) g n) = (((0 : Nat) : Int) * f 0 * g (n + 1) + mulA (tail (th f)) g n) + (f 0 * (((n + 1 : Nat) : Int) * g (n + 1)) + mulA (tail f) (th g) n)
    have e : tail (th f) = add (th (tail f)) (tail f) := by
      funext k
      show ((k + 1 : Nat) : Int) * f (k + 1) = (k : Int) * f (k + 1) + f (k + 1)
      grind
    rw [e, add_mul_]
    have := ih (tail f) g
    grind
theorem th_mul (f g : PS) : th (f * g) = th f * g + f * th g := by
  funext n
  exact th_mulA n f g
theorem th_add (f g : PS) : th (f + g) = th f + th g := by
  funext n
  show (n : Int) * (f n + g n) = n * f n + n * g n
  grind
theorem th_zero : th 0 = 0 := by
  funext n
  show (n : Int) * (0 : PS) n = (0 : PS) n
  rw [coe_zero]; grind
theorem th_sm {f : Nat → PS} {m : Nat} : th (sm f m) = sm (fun k => th (f k)) m := by
  induction m with
  | zero => exact th_zero
  | succ m ih =>
    show th (sm f m + f m) = sm (fun k => th (f k)) m + th (f m)
    rw [th_add, ih]
theorem th_one : th 1 = 0 := by
  funext n
  show (n : Int) * (if n = 0 then (1 : Int) else 0) = (0 : PS) n
  rw [coe_zero]
  by_cases h : n = 0
  · subst h; grind
  · rw [if_neg h]; grind
theorem th_neg (f : PS) : th (- f) = - th f := by
  funext n
  show (n : Int) * (- f n) = - (n * f n)
  grind
theorem th_sg (p : Nat) : th (sg p : PS) = 0 := by
  unfold sg
  split
  · exact th_one
  · rw [th_neg, th_one]; grind
theorem th_X : th X = X := by
  funext n
  show (n : Int) * (if n = 1 then (1 : Int) else 0) = (if n = 1 then (1 : Int) else 0)
  by_cases h : n = 1
  · subst h; grind
  · rw [if_neg h]; grind
theorem th_cst (c : Int) : th (cst c) = 0 := by
  funext n
  show (n : Int) * (if n = 0 then c else 0) = (0 : PS) n
  rw [coe_zero]
  by_cases h : n = 0
  · subst h; grind
  · rw [if_neg h]; grind
theorem th_D : ∀ {n : Nat} {v : VL PS}, th (D n v) = sm (fun p => D n (st v p fun c => th (v p c))) n
  | 0, v => by
    show th 1 = 0
    exact th_one
  | n + 1, v => by
    show th (sm (fun p => sg (p + n) * v p n * D n (fun q => v (skip p q))) (n + 1)) = sm (fun p' => sm (fun p => sg (p + n) * st v p' (fun c => th (v p' c)) p n * D n (fun q => st v p' (fun c => th (v p' c)) (skip p q))) (n + 1)) (n + 1)
    rw [th_sm, sm_swap]
    refine sm_congr fun p hp => ?_
    rw [sm_skip hp, sm_congr (g := fun q => sg (p + n) * v p n * D n (st (fun r => v (skip p r)) q fun c => th (v (skip p q) c))) fun q hq => ?_, sm_mul, ← th_D (v := fun r => v (skip p r)), st_skip_same, st_same]
    · rw [th_mul, th_mul, th_sg]
      grind
    · rw [st_skip (skip_ne p q), st_ne (Ne.symm (skip_ne p q)), dn_skip]

/-! ### degrees -/
def dg (f : PS) (d : Nat) : Prop := ∀ n, d < n → f n = 0
theorem dg_mono {f : PS} {a b : Nat} (h : dg f a) (l : a ≤ b) : dg f b := fun n hn => h n (by omega)
theorem dg_add {f g : PS} {d : Nat} (h : dg f d) (h' : dg g d) : dg (f + g) d := fun n hn => by
  rw [coe_add, h n hn, h' n hn]; rfl
theorem dg_neg {f : PS} {d : Nat} (h : dg f d) : dg (- f) d := fun n hn => by
  rw [coe_neg, h n hn]; rfl
theorem dg_zero {d : Nat} : dg 0 d := fun n hn => coe_zero n
theorem dg_one {d : Nat} : dg 1 d := fun n hn => by
  show (if n = 0 then (1 : Int) else 0) = 0
  rw [if_neg (by omega)]
theorem dg_sg {p d : Nat} : dg (sg p : PS) d := by
  unfold sg
  split
  · exact dg_one
  · exact dg_neg dg_one
theorem dg_sm {f : Nat → PS} {m d : Nat} (h : ∀ k, k < m → dg (f k) d) : dg (sm f m) d := by
  induction m with
  | zero => exact dg_zero
  | succ m ih => exact dg_add (ih fun k hk => h k (by omega)) (h m (by omega))
theorem mulA_null (g : PS) (n : Nat) : ∀ f : PS, (∀ k, f k = 0) → mulA f g n = 0 := by
  induction n with
  | zero => intro f h; show f 0 * g 0 = 0; rw [h]; grind
  | succ n ih =>
    intro f h
    show f 0 * g (n + 1) + mulA (tail f) g n = 0
    rw [ih (tail f) fun k => h (k + 1), h]; grind
theorem dg_mulA {g : PS} {b : Nat} (hg : dg g b) (n : Nat) : ∀ (f : PS) (a : Nat), dg f a → a + b < n → mulA f g n = 0 := by
  induction n with
  | zero => intro f a _ h; omega
  | succ n ih =>
    intro f a hf h
    show f 0 * g (n + 1) + mulA (tail f) g n = 0
    have h1 : mulA (tail f) g n = 0 := by
      by_cases ha : a = 0
      · subst ha
        exact mulA_null g n _ fun k => hf (k + 1) (by omega)
      · exact ih (tail f) (a - 1) (fun k hk => hf (k + 1) (by omega)) (by omega)
    rw [h1, hg (n + 1) (by omega)]; grind
theorem dg_mul {f g : PS} {a b : Nat} (hf : dg f a) (hg : dg g b) : dg (f * g) (a + b) := fun n hn => dg_mulA hg n f a hf hn
theorem dg_D : ∀ {n : Nat} {v : VL PS}, (∀ p, p < n → ∀ c, c < n → dg (v p c) 1) → dg (D n v) n
  | 0, _, _ => dg_one
  | n + 1, v, h => dg_sm fun p hp => by
    have h1 := dg_mul (dg_mul (dg_sg (p := p + n) (d := 0)) (h p hp n (by omega))) (dg_D (n := n) (v := fun q => v (skip p q)) fun q hq c hc => h _ (by have := skip_le p q; omega) c (by omega))
    exact dg_mono h1 (by omega)
theorem dg_D1 : ∀ {n : Nat} {v : VL PS} {r : Nat}, r < n → (∀ p, p < n → ∀ c, c < n → dg (v p c) 1) → (∀ c, c < n → dg (v r c) 0) → dg (D n v) (n - 1)
  | 0, _, _, h, _, _ => by omega
  | n + 1, v, r, hr, h, h0 => dg_sm fun p hp => by
    by_cases e : p = r
    · subst e
      have h1 := dg_mul (dg_mul (dg_sg (p := p + n) (d := 0)) (h0 n (by omega))) (dg_D (n := n) (v := fun q => v (skip p q)) fun q hq c hc => h _ (by have := skip_le p q; omega) c (by omega))
      exact dg_mono h1 (by omega)
    · have hd : dn p r < n := dn_lt (Ne.symm e) hr hp
      have hs : skip p (dn p r) = r := (skip_dn (Ne.symm e)).mpr rfl
      have h1 := dg_mul (dg_mul (dg_sg (p := p + n) (d := 0)) (h p hp n (by omega))) (dg_D1 (n := n) (v := fun q => v (skip p q)) hd (fun q hq c hc => h _ (by have := skip_le p q; omega) c (by omega)) fun c hc => by
        show dg (v (skip p (dn p r)) c) 0
        rw [hs]
        exact h0 c (by omega))
      exact dg_mono h1 (by omega)

/-! ### values of polynomials -/
def Ev (t : Int) (f : PS) (x : Int) : Prop := ∃ N, dg f N ∧ sm (fun k => f k * t ^ k) (N + 1) = x
theorem ev_more {t : Int} {f : PS} {N : Nat} (h : dg f N) (k : Nat) : sm (fun k => f k * t ^ k) (N + 1 + k) = sm (fun k => f k * t ^ k) (N + 1) := by
  induction k with
  | zero => rfl
  | succ k ih =>
    show sm (fun k => f k * t ^ k) (N + 1 + k) + f (N + 1 + k) * t ^ (N + 1 + k) = _
    rw [ih, h _ (by omega)]; grind
theorem Ev.at {t : Int} {f : PS} {x : Int} (h : Ev t f x) {M : Nat} (hM : dg f M) : sm (fun k => f k * t ^ k) (M + 1) = x := by
  obtain ⟨N, hN, e⟩ := h
  by_cases l : N ≤ M
  · rw [← e, show M + 1 = N + 1 + (M - N) by omega, ev_more hN]
  · rw [← e, show N + 1 = M + 1 + (N - M) by omega, ev_more hM]
theorem Ev.add {t : Int} {f g : PS} {x y : Int} (h : Ev t f x) (h' : Ev t g y) : Ev t (f + g) (x + y) := by
  obtain ⟨N, hN, e⟩ := h
  obtain ⟨M, hM, e'⟩ := h'
  have a := dg_mono hN (Nat.le_max_left N M)
  have b := dg_mono hM (Nat.le_max_right N M)
  refine ⟨max N M, dg_add a b, ?_⟩
  rw [← (show Ev t f x from ⟨N, hN, e⟩).at a, ← (show Ev t g y from ⟨M, hM, e'⟩).at b, ← sm_add]
  exact sm_congr fun k _ => by rw [coe_add]; grind
theorem Ev.neg {t : Int} {f : PS} {x : Int} (h : Ev t f x) : Ev t (- f) (- x) := by
  obtain ⟨N, hN, e⟩ := h
  refine ⟨N, dg_neg hN, ?_⟩
  rw [← e, ← sm_neg]
  exact sm_congr fun k _ => by rw [coe_neg]; grind
theorem Ev.zero {t : Int} : Ev t 0 0 := ⟨0, dg_zero, by
  show (0 : Int) + (0 : PS) 0 * t ^ 0 = 0
  rw [coe_zero]; grind⟩
theorem Ev.one {t : Int} : Ev t 1 1 := ⟨0, dg_one, by
  show (0 : Int) + (1 : PS) 0 * t ^ 0 = 1
  rw [coe_one_zero]; grind⟩
theorem Ev.sg {t : Int} {p : Nat} : Ev t (sg p) (sg p) := by
  unfold Mat.sg
  split
  · exact .one
  · exact Ev.neg .one
theorem Ev.cst {t c : Int} : Ev t (cst c) c := ⟨0, fun n hn => by
  show (if n = 0 then c else 0) = 0
  rw [if_neg (by omega)], by
  show (0 : Int) + (if (0 : Nat) = 0 then c else 0) * t ^ 0 = c
  rw [if_pos rfl]; grind⟩
theorem Ev.X {t : Int} : Ev t X t := ⟨1, fun n hn => by
  show (if n = 1 then (1 : Int) else 0) = 0
  rw [if_neg (by omega)], by
  show (0 : Int) + (if (0 : Nat) = 1 then (1 : Int) else 0) * t ^ 0 + (if (1 : Nat) = 1 then (1 : Int) else 0) * t ^ 1 = t
  rw [if_neg (by omega), if_pos rfl]; grind⟩
theorem Ev.sm {t : Int} {f : Nat → PS} {x : Nat → Int} {m : Nat} (h : ∀ k, k < m → Ev t (f k) (x k)) : Ev t (sm f m) (sm x m) := by
  induction m with
  | zero => exact .zero
  | succ m ih => exact Ev.add (ih fun k hk => h k (by omega)) (h m (by omega))
theorem ev_mulA {t : Int} {g : PS} {b : Nat} (hg : dg g b) {y : Int} (hy : Mat.sm (fun k => g k * t ^ k) (b + 1) = y) : ∀ (a : Nat) (f : PS), dg f a → Ev t (f * g) (Mat.sm (fun k => f k * t ^ k) (a + 1) * y)
  | 0, f, hf => by
    have e : f = PS.cst (f 0) := by
      funext n
      show f n = (if n = 0 then f 0 else 0)
      by_cases h : n = 0
      · rw [if_pos h, h]
      · rw [if_neg h]; exact hf n (by omega)
    refine ⟨b, fun n hn => ?_, ?_⟩
    · rw [e, coe_cst_mul, hg n hn]; grind
    · rw [← hy, ← sm_mul]
      refine sm_congr fun k _ => ?_
      rw [e, coe_cst_mul]
      show f 0 * g k * t ^ k = (0 + (if (0 : Nat) = 0 then f 0 else 0) * t ^ 0) * (g k * t ^ k)
      rw [if_pos rfl]; grind
  | a + 1, f, hf => by
    have hx : Ev t (PS.tail f * g) (Mat.sm (fun k => f (k + 1) * t ^ k) (a + 1) * y) := ev_mulA hg hy a (tail f) fun n hn => hf (n + 1) (by omega)
    have e : f * g = PS.cst (f 0) * g + PS.X * (tail f * g) := by
      funext n
      rw [coe_add, coe_cst_mul]
      cases n with
      | zero => rw [X_mul_zero, mul_zero_at]; grind
      | succ n => rw [X_mul_succ, mul_succ_at]
    rw [e, sm_front]
    have h1 : Ev t (PS.cst (f 0) * g) (f 0 * y) := ⟨b, fun n hn => by rw [coe_cst_mul, hg n hn]; grind, by
      rw [← hy, ← sm_mul]
      exact sm_congr fun k _ => by rw [coe_cst_mul]; grind⟩
    have h2 : Ev t (PS.X * (tail f * g)) (t * (Mat.sm (fun k => f (k + 1) * t ^ k) (a + 1) * y)) := by
      obtain ⟨N, hN, eN⟩ := hx
      refine ⟨N + 1, fun n hn => ?_, ?_⟩
      · cases n with
        | zero => omega
        | succ n => rw [X_mul_succ]; exact hN n (by omega)
      · rw [sm_front, X_mul_zero, ← eN, ← sm_mul]
        rw [sm_congr (g := fun k => t * ((tail f * g) k * t ^ k)) fun k _ => by
          rw [X_mul_succ]; grind]
        grind
    have h3 : f 0 * t ^ 0 + Mat.sm (fun k => f (k + 1) * t ^ (k + 1)) (a + 1) = f 0 + t * Mat.sm (fun k => f (k + 1) * t ^ k) (a + 1) := by
      rw [← sm_mul]
      rw [sm_congr (f := fun k => f (k + 1) * t ^ (k + 1)) (g := fun k => t * (f (k + 1) * t ^ k)) fun k _ => by grind]
      grind
    rw [h3]
    have h4 := Ev.add h1 h2
    rw [show f 0 * y + t * (Mat.sm (fun k => f (k + 1) * t ^ k) (a + 1) * y) = (f 0 + t * Mat.sm (fun k => f (k + 1) * t ^ k) (a + 1)) * y by grind] at h4
    exact h4
theorem Ev.mul {t : Int} {f g : PS} {x y : Int} (h : Ev t f x) (h' : Ev t g y) : Ev t (f * g) (x * y) := by
  obtain ⟨N, hN, e⟩ := h
  obtain ⟨M, hM, e'⟩ := h'
  rw [← e]
  exact ev_mulA hM e' N f hN
theorem Ev.D {t : Int} : ∀ {n : Nat} {v : VL PS} {u : VL Int}, (∀ p, p < n → ∀ c, c < n → Ev t (v p c) (u p c)) → Ev t (D n v) (D n u)
  | 0, _, _, _ => .one
  | n + 1, v, u, h => Ev.sm fun p hp => Ev.mul (Ev.mul .sg (h p hp n (by omega))) (Ev.D fun q hq c hc => h _ (by have := skip_le p q; omega) c (by omega))
/-- the first coefficient -/
theorem D_at_zero : ∀ {n : Nat} {v : VL PS}, (D n v) 0 = D n fun p c => v p c 0
  | 0, _ => rfl
  | n + 1, v => by
    show (Mat.sm (fun p => Mat.sg (p + n) * v p n * Mat.D n (fun q => v (skip p q))) (n + 1) : PS) 0 = Mat.sm (fun p => Mat.sg (p + n) * v p n 0 * Mat.D n fun q c => v (skip p q) c 0) (n + 1)
    rw [coe_sm]
    refine sm_congr fun p _ => ?_
    rw [mul_zero_at, mul_zero_at, D_at_zero]
    have e : (Mat.sg (p + n) : PS) 0 = Mat.sg (p + n) := by
      unfold Mat.sg
      split <;> rfl
    rw [e]
end PS

/-! ### the reversed characteristic polynomial -/
section
variable {n : Nat} {A : Nat → Nat → Int}
def cm (A : Nat → Nat → Int) : VL PS := fun p c => (ei p c : PS) - PS.X * PS.cst (A p c)
/-- det(1 - zA) -/
def ch (n : Nat) (A : Nat → Nat → Int) : PS := D n (cm A)
def ad (n : Nat) (A : Nat → Nat → Int) (j p : Nat) : PS := D n (st (cm A) p (ei j))
def dl (i j : Nat) : Int := if j = i then 1 else 0
theorem ei_ps {j c : Nat} (k : Nat) : (ei j c : PS) k = if k = 0 then dl j c else 0 := by
  show (if c = j then (1 : PS) else 0) k = _
  unfold dl
  by_cases h : c = j
  · rw [if_pos h, if_pos h]; rfl
  · rw [if_neg h, if_neg h, PS.coe_zero]; split <;> rfl
theorem ad_eq {j c : Nat} (hc : c < n) : ch n A * (ei j c : PS) = ad n A j c - PS.X * sm (fun p => PS.cst (A p c) * ad n A j p) n := by
  have h := cramer (n := n) (w := cm A) (u := (ei j : Nat → PS)) hc
  rw [show ch n A = D n (cm A) from rfl, h, ← sm_mul]
  have e : ad n A j c = sm (fun p => D n (st (cm A) p (ei j)) * ei p c) n := by
    rw [sm_one hc fun k hk hkc => ?_]
    · show _ = _ * (if c = c then (1 : PS) else 0)
      rw [if_pos rfl]
      show ad n A j c = ad n A j c * 1
      grind
    · show _ * (if c = k then (1 : PS) else 0) = 0
      rw [if_neg (Ne.symm hkc)]; grind
  rw [e, ← sm_sub]
  refine sm_congr fun p hp => ?_
  show D n (st (cm A) p (ei j)) * ((ei p c : PS) - PS.X * PS.cst (A p c)) = D n (st (cm A) p (ei j)) * ei p c - PS.X * (PS.cst (A p c) * D n (st (cm A) p (ei j)))
  grind
theorem ad_succ {j c : Nat} (hc : c < n) (k : Nat) : ad n A j c (k + 1) = sm (fun p => ad n A j p k * A p c) n + ch n A (k + 1) * dl j c := by
  have h := congrFun (ad_eq (A := A) (j := j) hc) (k + 1)
  rw [PS.coe_sub, PS.X_mul_succ, PS.coe_sm] at h
  have e : (ch n A * (ei j c : PS)) (k + 1) = ch n A (k + 1) * dl j c := by
    show (ch n A * (if c = j then (1 : PS) else 0)) (k + 1) = ch n A (k + 1) * (if c = j then 1 else 0)
    split
    · rw [show ch n A * (1 : PS) = ch n A by grind]; grind
    · rw [show ch n A * (0 : PS) = 0 by grind, PS.coe_zero]; grind
  rw [e] at h
  rw [sm_congr (f := fun p => ad n A j p k * A p c) (g := fun p => (PS.cst (A p c) * ad n A j p) k) fun p _ => by rw [PS.coe_cst_mul]; grind]
  grind
theorem ch_zero : ch n A 0 = 1 := by
  unfold ch
  rw [PS.D_at_zero, D_congr (v' := ei) fun p hp c hc => ?_]
  · exact D_ei
  · show ((ei p c : PS) - PS.X * PS.cst (A p c)) 0 = ei p c
    rw [PS.coe_sub, PS.X_mul_zero, ei_ps, if_pos rfl]
    unfold dl ei
    grind
theorem ad_zero {j c : Nat} (hc : c < n) : ad n A j c 0 = dl j c := by
  have h := congrFun (ad_eq (A := A) (j := j) hc) 0
  rw [PS.coe_sub, PS.X_mul_zero, PS.mul_zero_at, ch_zero, ei_ps, if_pos rfl] at h
  grind
/-- the trace -/
theorem ch_trace (k : Nat) : ((k + 1 : Nat) : Int) * ch n A (k + 1) = - sm (fun p => sm (fun j => A p j * ad n A j p k) n) n := by
  have h : PS.th (ch n A) = - (PS.X * sm (fun p => sm (fun j => PS.cst (A p j) * ad n A j p) n) n) := by
    unfold ch
    rw [PS.th_D, ← sm_mul, ← sm_neg]
    refine sm_congr fun p hp => ?_
    rw [← sm_mul, ← sm_neg]
    have e : D n (st (cm A) p fun c => PS.th (cm A p c)) = D n (st (cm A) p fun c => sm (fun j => (- (PS.X * PS.cst (A p j))) * ei j c) n) := D_congr fun q hq c hc => by
      by_cases hqp : q = p
      · subst hqp
        rw [st_same, st_same, sm_one hc fun k hk hkc => ?_]
        · show PS.th ((ei q c : PS) - PS.X * PS.cst (A q c)) = _ * (if c = c then (1 : PS) else 0)
          rw [if_pos rfl, show (ei q c : PS) - PS.X * PS.cst (A q c) = (ei q c : PS) + - (PS.X * PS.cst (A q c)) by grind, PS.th_add, PS.th_neg, PS.th_mul, PS.th_X, PS.th_cst]
          have z : PS.th (ei q c : PS) = 0 := by
            show PS.th (if c = q then (1 : PS) else 0) = 0
            split
            · exact PS.th_one
            · exact PS.th_zero
          rw [z]; grind
        · show _ * (if c = k then (1 : PS) else 0) = 0
          rw [if_neg (Ne.symm hkc)]; grind
      · rw [st_ne hqp, st_ne hqp]
    rw [e, D_sm (f := fun j c => (- (PS.X * PS.cst (A p j))) * (ei j c : PS)) hp]
    refine sm_congr fun j hj => ?_
    rw [D_smul hp]
    show - (PS.X * PS.cst (A p j)) * ad n A j p = - (PS.X * (PS.cst (A p j) * ad n A j p))
    grind
  have h2 := congrFun h (k + 1)
  rw [PS.coe_neg, PS.X_mul_succ, PS.coe_sm] at h2
  rw [show ((k + 1 : Nat) : Int) * ch n A (k + 1) = PS.th (ch n A) (k + 1) from rfl, h2]
  congr 1
  refine sm_congr fun p _ => ?_
  rw [PS.coe_sm]
  exact sm_congr fun j _ => by rw [PS.coe_cst_mul]
theorem cm_dg {p c : Nat} : PS.dg (cm A p c) 1 := by
  intro k hk
  show ((ei p c : PS) - PS.X * PS.cst (A p c)) k = 0
  obtain ⟨m, rfl⟩ : ∃ m, k = m + 1 := ⟨k - 1, by omega⟩
  rw [PS.coe_sub, PS.X_mul_succ, ei_ps, if_neg (by omega)]
  show 0 - (if m = 0 then A p c else 0) = 0
  rw [if_neg (by omega)]; rfl
theorem ch_dg : PS.dg (ch n A) n := PS.dg_D fun p hp c hc => cm_dg
theorem ad_dg {j p : Nat} (hp : p < n) : PS.dg (ad n A j p) (n - 1) := by
  refine PS.dg_D1 (r := p) hp (fun q hq c hc => ?_) fun c hc => ?_
  · by_cases h : q = p
    · subst h
      rw [st_same]
      intro k hk
      rw [ei_ps, if_neg (by omega)]
    · rw [st_ne h]; exact cm_dg
  · rw [st_same]
    intro k hk
    rw [ei_ps, if_neg (by omega)]
/-- its value at a whole number -/
theorem ch_value (t : Int) {M : Nat} (hM : n ≤ M) : sm (fun k => ch n A k * t ^ k) (M + 1) = D n fun p c => dl p c - t * A p c := by
  refine PS.Ev.at (PS.Ev.D fun p hp c hc => ?_) (PS.dg_mono ch_dg hM)
  show PS.Ev t ((ei p c : PS) + - (PS.X * PS.cst (A p c))) (dl p c + - (t * A p c))
  refine .add ?_ (.neg (.mul .X .cst))
  show PS.Ev t (if c = p then (1 : PS) else 0) (if c = p then 1 else 0)
  split
  · exact .one
  · exact .zero

/-! ### by the sums of diagonals -/
def mm (n : Nat) (A B : Nat → Nat → Int) : Nat → Nat → Int := fun i j => sm (fun k => A i k * B k j) n
theorem dl_self (j : Nat) : dl j j = 1 := if_pos rfl
theorem dl_ne {i j : Nat} (h : j ≠ i) : dl i j = 0 := if_neg h
/-- sums with one place marked -/
theorem sm_dl {f : Nat → Int} {j : Nat} (hj : j < n) : sm (fun p => f p * dl p j) n = f j := by
  have h := sm_one (f := fun p => f p * dl p j) hj fun q hq h => by rw [dl_ne (Ne.symm h)]; grind
  rw [h, dl_self]; grind
theorem sm_dl' {f : Nat → Int} {i : Nat} (hi : i < n) : sm (fun p => dl i p * f p) n = f i := by
  have h := sm_one (f := fun p => dl i p * f p) hi fun q hq h => by rw [dl_ne h]; grind
  rw [h, dl_self]; grind
/-- A times what is called ad, from either side -/
theorem ad_comm : ∀ (k : Nat) {i j : Nat}, i < n → j < n → sm (fun p => A i p * ad n A p j k) n = sm (fun p => ad n A i p k * A p j) n
  | 0, i, j, hi, hj => by
    rw [sm_congr (f := fun p => A i p * ad n A p j 0) (g := fun p => A i p * dl p j) fun p hp => by rw [ad_zero hj], sm_dl hj]
    rw [sm_congr (f := fun p => ad n A i p 0 * A p j) (g := fun p => dl i p * A p j) fun p hp => by rw [ad_zero hp], sm_dl' hi]
  | k + 1, i, j, hi, hj => by
    have l : sm (fun p => A i p * ad n A p j (k + 1)) n = sm (fun q => sm (fun p => A i p * ad n A p q k) n * A q j) n + ch n A (k + 1) * A i j := by
      have h1 : sm (fun p => A i p * ad n A p j (k + 1)) n = sm (fun p => sm (fun q => A i p * ad n A p q k * A q j) n + ch n A (k + 1) * (A i p * dl p j)) n := sm_congr fun p hp => by
        rw [ad_succ hj]
        have h2 : sm (fun q => A i p * ad n A p q k * A q j) n = A i p * sm (fun q => ad n A p q k * A q j) n := by
          rw [← sm_mul]
          exact sm_congr fun q _ => by grind
        rw [h2]; grind
      rw [h1, sm_add, sm_swap, sm_mul, sm_dl hj]
      congr 1
      exact sm_congr fun q _ => by rw [sm_mulr]
    have r : sm (fun p => ad n A i p (k + 1) * A p j) n = sm (fun q => sm (fun p => ad n A i p k * A p q) n * A q j) n + ch n A (k + 1) * A i j := by
      have h1 : sm (fun p => ad n A i p (k + 1) * A p j) n = sm (fun p => sm (fun q => ad n A i q k * A q p) n * A p j + ch n A (k + 1) * (dl i p * A p j)) n := sm_congr fun p hp => by
        rw [ad_succ hp]; grind
      rw [h1, sm_add, sm_mul, sm_dl' hi]
    rw [l, r]
    congr 1
    exact sm_congr fun q hq => by rw [ad_comm k hi hq]
/-- the next matrix -/
theorem ad_next (k : Nat) {i j : Nat} (hi : i < n) (hj : j < n) : mm n A (fun a b => ad n A a b k) i j + ch n A (k + 1) * dl i j = ad n A i j (k + 1) := by
  rw [ad_succ hj, ← ad_comm k hi hj]
  rfl

/-! ### numbers of ways -/
/-- ways from the first state: now m c -/
def now (n : Nat) (A : Nat → Nat → Int) : Nat → Nat → Int
  | 0 => dl 0
  | m + 1 => fun c => sm (fun k => now n A m k * A k c) n
theorem ad_now (hn : 0 < n) : ∀ (N : Nat) {c : Nat}, c < n → ad n A 0 c N = sm (fun k => ch n A k * now n A (N - k) c) (N + 1)
  | 0, c, hc => by
    rw [ad_zero hc]
    show dl 0 c = 0 + ch n A 0 * dl 0 c
    rw [ch_zero]; grind
  | N + 1, c, hc => by
    rw [ad_succ hc]
    show _ = sm (fun k => ch n A k * now n A (N + 1 - k) c) (N + 1) + ch n A (N + 1) * now n A (N + 1 - (N + 1)) c
    rw [Nat.sub_self, sm_congr (f := fun p => ad n A 0 p N * A p c) (g := fun p => sm (fun k => ch n A k * (now n A (N - k) p * A p c)) (N + 1)) fun p hp => ?_, sm_swap]
    · congr 1
      refine sm_congr fun k hk => ?_
      rw [sm_mul, show N + 1 - k = (N - k) + 1 by omega]
      rfl
    · rw [ad_now hn N hp, ← sm_mulr]
      exact sm_congr fun k _ => by grind
theorem ch_ways (hn : 0 < n) {N c : Nat} (hN : n ≤ N) (hc : c < n) : sm (fun k => ch n A k * now n A (N - k) c) (N + 1) = 0 := by
  rw [← ad_now hn N hc]
  exact ad_dg hc N (by omega)
end
end Mat
set_option Elab.async false
set_option linter.all false
namespace Mat
open PS (dg)

/-! ### lists as series -/
def T (l : List Int) : PS := fun n => l.getD n 0
theorem T_at (l : List Int) (n : Nat) : T l n = l.getD n 0 := rfl
theorem getD_over {l : List Int} {n : Nat} (h : l.length ≤ n) : l.getD n 0 = 0 := by
  rw [List.getD_eq_getElem?_getD, List.getElem?_eq_none h]; rfl
theorem T_over {l : List Int} {n : Nat} (h : l.length ≤ n) : T l n = 0 := getD_over h
theorem T_dg {l : List Int} {m : Nat} (h : l.length ≤ m + 1) : dg (T l) m := fun n hn => T_over (by omega)
def tab (n : Nat) (f : Nat → Int) : List Int := (List.range n).map f
theorem tab_length {n : Nat} {f : Nat → Int} : (tab n f).length = n := by unfold tab; rw [List.length_map, List.length_range]
theorem tab_at {n : Nat} {f : Nat → Int} (k : Nat) : (tab n f).getD k 0 = if k < n then f k else 0 := by
  by_cases h : k < n
  · rw [if_pos h, List.getD_eq_getElem?_getD, List.getElem?_eq_getElem (by rw [tab_length]; exact h)]
    simp [tab]
  · rw [if_neg h, getD_over (by rw [tab_length]; omega)]
theorem T_tab {n : Nat} {f : PS} (h : ∀ k, n ≤ k → f k = 0) : T (tab n f) = f := by
  funext k
  have e := tab_at (n := n) (f := f) k
  refine e.trans ?_
  by_cases hk : k < n
  · rw [if_pos hk]
  · rw [if_neg hk, h k (by omega)]
theorem list_ext {l l' : List Int} (h : l.length = l'.length) (e : ∀ k, k < l.length → l.getD k 0 = l'.getD k 0) : l = l' := by
  refine List.ext_getElem h fun k h1 h2 => ?_
  have := e k h1
  rw [List.getD_eq_getElem?_getD, List.getD_eq_getElem?_getD, List.getElem?_eq_getElem h1, List.getElem?_eq_getElem h2] at this
  exact this
theorem T_ext {l l' : List Int} (h : l.length = l'.length) (e : T l = T l') : l = l' := list_ext h fun k _ => congrFun e k
/-- no zero at the end -/
def Tr (l : List Int) : Prop := 0 < l.length → l.getD (l.length - 1) 0 ≠ 0
theorem Tr_nil : Tr [] := fun h => absurd h (by decide)
theorem T_len_le {l l' : List Int} (h : Tr l) (e : T l = T l') : l.length ≤ l'.length := by
  by_cases h0 : 0 < l.length
  · refine Nat.not_lt.mp fun hl => h h0 ?_
    have := congrFun e (l.length - 1)
    rw [T_at] at this
    rw [this, T_over (by omega)]
  · omega
theorem T_inj {l l' : List Int} (h : Tr l) (h' : Tr l') (e : T l = T l') : l = l' :=
  T_ext (Nat.le_antisymm (T_len_le h e) (T_len_le h' e.symm)) e
theorem T_nil : T [] = 0 := by
  funext n
  rw [PS.coe_zero, T_over (Nat.zero_le _)]
theorem T_zero {l : List Int} (h : Tr l) (e : T l = 0) : l = [] := T_inj h Tr_nil (by rw [e, T_nil])
def tl (l : List Int) : Nat → Nat
  | 0 => 0
  | m + 1 => if l.getD m 0 = 0 then tl l m else m + 1
theorem tl_le (l : List Int) : ∀ m, tl l m ≤ m
  | 0 => Nat.le_refl _
  | m + 1 => by
    show (if l.getD m 0 = 0 then tl l m else m + 1) ≤ m + 1
    have := tl_le l m
    split <;> omega
theorem tl_over (l : List Int) : ∀ m k, tl l m ≤ k → k < m → l.getD k 0 = 0
  | 0, k, _, h => by omega
  | m + 1, k, h, hk => by
    have e : tl l (m + 1) = if l.getD m 0 = 0 then tl l m else m + 1 := rfl
    rw [e] at h
    by_cases z : l.getD m 0 = 0
    · rw [if_pos z] at h
      by_cases q : k = m
      · rw [q]; exact z
      · exact tl_over l m k h (by omega)
    · rw [if_neg z] at h
      omega
theorem tl_top (l : List Int) : ∀ m, 0 < tl l m → l.getD (tl l m - 1) 0 ≠ 0
  | 0, h => absurd h (Nat.lt_irrefl 0)
  | m + 1, h => by
    have e : tl l (m + 1) = if l.getD m 0 = 0 then tl l m else m + 1 := rfl
    rw [e] at h ⊢
    by_cases z : l.getD m 0 = 0
    · rw [if_pos z] at h ⊢
      exact tl_top l m h
    · rw [if_neg z]
      exact z
def trimP (l : List Int) : List Int := l.take (tl l l.length)
theorem take_at {l : List Int} {m k : Nat} : (l.take m).getD k 0 = if k < m then l.getD k 0 else 0 := by
  rw [List.getD_eq_getElem?_getD, List.getD_eq_getElem?_getD, List.getElem?_take]
  split <;> rfl
theorem trimP_length {l : List Int} : (trimP l).length = tl l l.length := by
  unfold trimP
  rw [List.length_take]
  have := tl_le l l.length
  omega
theorem trimP_le {l : List Int} : (trimP l).length ≤ l.length := by rw [trimP_length]; exact tl_le _ _
theorem trimP_T {l : List Int} : T (trimP l) = T l := by
  funext k
  show (l.take _).getD k 0 = l.getD k 0
  rw [take_at]
  by_cases h : k < tl l l.length
  · rw [if_pos h]
  · rw [if_neg h]
    by_cases h2 : k < l.length
    · rw [tl_over l _ k (by omega) h2]
    · rw [getD_over (by omega)]
theorem trimP_Tr {l : List Int} : Tr (trimP l) := fun h => by
  rw [trimP_length] at h ⊢
  show (l.take _).getD _ 0 ≠ 0
  rw [take_at, if_pos (by omega)]
  exact tl_top l _ h
theorem trimP_of {l : List Int} (h : Tr l) : trimP l = l := T_inj trimP_Tr h trimP_T
theorem trimP_len_of {l : List Int} {m : Nat} (h : ∀ k, m ≤ k → l.getD k 0 = 0) : (trimP l).length ≤ m := by
  by_cases h0 : 0 < (trimP l).length
  · refine Nat.not_lt.mp fun hl => trimP_Tr h0 ?_
    have e := congrFun (trimP_T (l := l)) ((trimP l).length - 1)
    rw [T_at, T_at] at e
    rw [e, h _ (by omega)]
  · omega

/-! ### products -/
namespace PS
theorem conv (n : Nat) : ∀ f g : PS, (f * g) n = Mat.sm (fun k => f k * g (n - k)) (n + 1) := by
  induction n with
  | zero => intro f g; show f 0 * g 0 = 0 + f 0 * g (0 - 0); grind
  | succ n ih =>
    intro f g
    rw [mul_succ_at, ih, sm_front (n := n + 1)]
    show f 0 * g (n + 1) + _ = f 0 * g (n + 1) + _
    congr 1
    exact sm_congr fun k hk => by
      show f (k + 1) * g (n - k) = f (k + 1) * g (n + 1 - (k + 1))
      rw [show n + 1 - (k + 1) = n - k by omega]
theorem top {f g : PS} {a b : Nat} (hf : dg f a) (hg : dg g b) : (f * g) (a + b) = f a * g b := by
  rw [conv, sm_one (p := a) (by omega) fun k hk h => ?_]
  · rw [show a + b - a = b by omega]
  · by_cases h1 : k < a
    · rw [hg (a + b - k) (by omega)]; grind
    · rw [hf k (by omega)]; grind
/-- a set of numbers closed as the multiples of a prime are -/
structure Pr (P : Int → Prop) : Prop where
  zero : P 0
  add : ∀ {a b}, P a → P b → P (a + b)
  mul : ∀ {a} (b), P a → P (a * b)
  or : ∀ {a b}, P (a * b) → P a ∨ P b
theorem pr_low {P : Int → Prop} (I : Pr P) {g : PS} : ∀ (n : Nat) (f : PS), (∀ k, k < n → P (g k)) → ∀ m, m < n → P ((f * g) m)
  | 0, f, h, m, hm => by omega
  | n + 1, f, h, 0, hm => by
    rw [mul_zero_at, Int.mul_comm]
    exact I.mul _ (h 0 (by omega))
  | n + 1, f, h, m + 1, hm => by
    rw [mul_succ_at]
    refine I.add ?_ (pr_low I n (tail f) (fun k hk => h k (by omega)) m (by omega))
    rw [Int.mul_comm]
    exact I.mul _ (h (m + 1) (by omega))
theorem Pr.neg {P : Int → Prop} (I : Pr P) {a : Int} (h : P a) : P (-a) := by
  have := I.mul (-1) h
  rw [show a * -1 = -a by omega] at this
  exact this
theorem Pr.of {P : Int → Prop} (I : Pr P) {a b : Int} (h : P (a + b)) (h' : P b) : P a := by
  have := I.add h (I.neg h')
  rw [show a + b + -b = a by omega] at this
  exact this
theorem pr_step {P : Int → Prop} (I : Pr P) {g : PS} {n : Nat} (hg : ∀ k, k < n → P (g k)) : ∀ (a : Nat) (f : PS), (∀ k, k < a → P (f k)) → ¬ P (f a) → P ((f * g) (a + n)) → P (g n)
  | 0, f, _, ha, h => by
    have h1 : P (f 0 * g n) := by
      cases n with
      | zero => exact h
      | succ n =>
        rw [Nat.zero_add, mul_succ_at] at h
        exact I.of h (pr_low I (n + 1) (tail f) hg n (by omega))
    exact (I.or h1).resolve_left ha
  | a + 1, f, h0, ha, h => by
    refine pr_step I hg a (tail f) (fun k hk => h0 (k + 1) (by omega)) ha ?_
    rw [show a + 1 + n = (a + n) + 1 by omega, mul_succ_at] at h
    refine I.of (b := f 0 * g (a + n + 1)) ?_ (I.mul _ (h0 0 (by omega)))
    rw [Int.add_comm]
    exact h
theorem pr_all {P : Int → Prop} (I : Pr P) {f g : PS} (h : ∀ n, P ((f * g) n)) : (∀ n, P (f n)) ∨ ∀ n, P (g n) := by
  by_cases hf : ∀ n, P (f n)
  · exact .inl hf
  · refine .inr ?_
    -- the first place
    have low : ∀ m, (∀ k, k < m → P (f k)) ∨ ∃ a, ¬ P (f a) ∧ ∀ k, k < a → P (f k) := by
      intro m
      induction m with
      | zero => exact .inl fun k hk => by omega
      | succ m ih =>
        rcases ih with ih | ih
        · by_cases q : P (f m)
          · exact .inl fun k hk => by
              by_cases e : k = m
              · rw [e]; exact q
              · exact ih k (by omega)
          · exact .inr ⟨m, q, ih⟩
        · exact .inr ih
    obtain ⟨b, hb⟩ := Classical.not_forall.mp hf
    have : ∃ a, ¬ P (f a) ∧ ∀ k, k < a → P (f k) := by
      rcases low (b + 1) with q | q
      · exact absurd (q b (by omega)) hb
      · exact q
    obtain ⟨a, ha, h0⟩ := this
    intro n
    induction n using Nat.strongRecOn with
    | _ n ih => exact pr_step I ih a f h0 ha (h (a + n))
theorem ps_ext {f g : PS} (h : ∀ n, f n = g n) : f = g := funext h
theorem mul_null {f g : PS} (h : f * g = 0) : f = 0 ∨ g = 0 := by
  have I : Pr fun a => a = 0 := ⟨rfl, fun a b => by rw [a, b]; rfl, fun b a => by rw [a]; exact Int.zero_mul b, fun h => Int.mul_eq_zero.mp h⟩
  rcases pr_all I (f := f) (g := g) fun n => by rw [h]; exact coe_zero n with q | q
  · exact .inl (ps_ext fun n => by rw [q, coe_zero])
  · exact .inr (ps_ext fun n => by rw [q, coe_zero])
theorem cst_mul (a b : Int) : cst (a * b) = cst a * cst b := ps_ext fun n => by
  rw [coe_cst_mul]
  show (if n = 0 then a * b else 0) = a * if n = 0 then b else 0
  split <;> grind
theorem cst_one : cst 1 = 1 := rfl
theorem cst_zero : cst 0 = 0 := rfl
theorem cst_neg (a : Int) : cst (-a) = - cst a := ps_ext fun n => by
  rw [coe_neg]
  show (if n = 0 then -a else 0) = - if n = 0 then a else 0
  split <;> grind
theorem cst_ne {c : Int} (h : c ≠ 0) : cst c ≠ 0 := fun e => h (congrFun e 0)
theorem cancel {f g h : PS} (hf : f ≠ 0) (e : f * g = f * h) : g = h := by
  rcases mul_null (f := f) (g := g - h) (by grind) with q | q
  · exact absurd q hf
  · grind
end PS
open PS

/-! ### Gauss -/
theorem prime_factor : ∀ (c : Nat), 1 < c → ∃ p, 1 < p ∧ p ∣ c ∧ ∀ d, d ∣ p → d = 1 ∨ d = p := by
  intro c
  induction c using Nat.strongRecOn with
  | _ c ih =>
    intro h
    by_cases q : ∀ d, d ∣ c → d = 1 ∨ d = c
    · exact ⟨c, h, Nat.dvd_refl c, q⟩
    · obtain ⟨d, hd⟩ := Classical.not_forall.mp q
      obtain ⟨h1, h2⟩ := Classical.not_imp.mp hd
      have hle := Nat.le_of_dvd (by omega) h1
      have h0 : d ≠ 0 := fun z => by
        subst z
        have := Nat.eq_zero_of_zero_dvd h1
        omega
      obtain ⟨p, a, b, c'⟩ := ih d (by omega) (by omega)
      exact ⟨p, a, Nat.dvd_trans b h1, c'⟩
theorem prime_pr {p : Nat} (h1 : 1 < p) (h : ∀ d, d ∣ p → d = 1 ∨ d = p) : PS.Pr fun a => (p : Int) ∣ a := by
  refine ⟨Int.dvd_zero _, fun a b => Int.dvd_add a b, fun b a => Int.dvd_trans a (Int.dvd_mul_right _ _), fun {a b} q => ?_⟩
  have q2 : p ∣ a.natAbs * b.natAbs := by
    have := Int.natAbs_dvd_natAbs.mpr q
    rw [Int.natAbs_mul] at this
    exact this
  rcases h (Nat.gcd p a.natAbs) (Nat.gcd_dvd_left _ _) with e | e
  · exact .inr (Int.natAbs_dvd_natAbs.mp (Nat.Coprime.dvd_of_dvd_mul_left e q2))
  · refine .inl (Int.natAbs_dvd_natAbs.mp ?_)
    have := Nat.gcd_dvd_right p a.natAbs
    rw [e] at this
    exact this
theorem divide {p : Int} {f : PS} (hp : ∀ n, p ∣ f n) : ∃ f', f = PS.cst p * f' :=
  ⟨fun n => f n / p, PS.ps_ext fun n => by
    have h := PS.coe_cst_mul p (fun n => f n / p) n
    rw [h]
    exact (Int.mul_ediv_cancel' (hp n)).symm⟩
/-- no common divisor -/
def Prim (g : PS) : Prop := ∀ d : Nat, (∀ n, (d : Int) ∣ g n) → d = 1
theorem gauss_nat {g : PS} (hg : Prim g) : ∀ (c : Nat), c ≠ 0 → ∀ f h : PS, PS.cst c * f = h * g → ∃ h', h = PS.cst c * h' := by
  intro c
  induction c using Nat.strongRecOn with
  | _ c ih =>
    intro hc f h e
    by_cases h1 : c = 1
    · subst h1
      exact ⟨h, by
        show h = (1 : PS) * h
        grind⟩
    · obtain ⟨p, p1, ⟨c', rfl⟩, p2⟩ := prime_factor c (by omega)
      have I := prime_pr p1 p2
      have hc' : c' ≠ 0 := fun z => hc (by rw [z]; rfl)
      have e2 : PS.cst ((p * c' : Nat) : Int) = PS.cst p * PS.cst c' := by rw [Int.natCast_mul, PS.cst_mul]
      rcases PS.pr_all I (f := h) (g := g) fun n => by
        rw [← e, e2, show PS.cst (p : Int) * PS.cst c' * f = PS.cst p * (PS.cst c' * f) by grind, PS.coe_cst_mul]
        exact Int.dvd_mul_right _ _ with q | q
      · obtain ⟨h1, rfl⟩ := divide q
        have e3 : PS.cst c' * f = h1 * g := by
          refine PS.cancel (f := PS.cst p) (PS.cst_ne (by omega)) ?_
          rw [e2] at e
          grind
        obtain ⟨h', rfl⟩ := ih c' (by
          have : c' * 1 < c' * p := Nat.mul_lt_mul_of_pos_left p1 (by omega)
          rw [Nat.mul_comm p c']
          omega) hc' f h1 e3
        exact ⟨h', by rw [e2]; grind⟩
      · have := hg p q
        omega
theorem gauss {g f h : PS} (hg : Prim g) {c : Int} (hc : c ≠ 0) (e : PS.cst c * f = h * g) : ∃ h', h = PS.cst c * h' := by
  rcases Int.natAbs_eq c with q | q
  · rw [q] at e ⊢
    exact gauss_nat hg _ (by omega) f h e
  · rw [q, PS.cst_neg] at e
    obtain ⟨h', z⟩ := gauss_nat hg c.natAbs (by omega) f (-h) (by grind)
    refine ⟨h', ?_⟩
    rw [q, PS.cst_neg]
    grind

/-! ### divisors -/
def Fn (f : PS) : Prop := ∃ N, dg f N
theorem Fn.add {f g : PS} (a : Fn f) (b : Fn g) : Fn (f + g) := let ⟨N, h⟩ := a; let ⟨M, k⟩ := b; ⟨N + M, PS.dg_add (PS.dg_mono h (by omega)) (PS.dg_mono k (by omega))⟩
theorem Fn.mul {f g : PS} (a : Fn f) (b : Fn g) : Fn (f * g) := let ⟨N, h⟩ := a; let ⟨M, k⟩ := b; ⟨N + M, PS.dg_mul h k⟩
theorem Fn.neg {f : PS} (a : Fn f) : Fn (-f) := let ⟨N, h⟩ := a; ⟨N, PS.dg_neg h⟩
theorem Fn.sub {f g : PS} (a : Fn f) (b : Fn g) : Fn (f - g) := by
  rw [show f - g = f + -g by grind]
  exact a.add b.neg
theorem Fn.cst {c : Int} : Fn (PS.cst c) := ⟨0, fun n hn => if_neg (by omega)⟩
theorem Fn.zero : Fn 0 := ⟨0, PS.dg_zero⟩
theorem Fn.one : Fn 1 := ⟨0, PS.dg_one⟩
theorem Fn.T {l : List Int} : Fn (T l) := ⟨l.length, T_dg (by omega)⟩
theorem Fn.cancel {c : Int} {f : PS} (hc : c ≠ 0) (h : Fn (PS.cst c * f)) : Fn f := by
  obtain ⟨N, h⟩ := h
  refine ⟨N, fun n hn => ?_⟩
  have := h n hn
  rw [PS.coe_cst_mul] at this
  exact (Int.mul_eq_zero.mp this).resolve_left hc
structure GG (g a b : PS) : Prop where
  da : ∃ k h, k ≠ 0 ∧ Fn h ∧ PS.cst k * a = h * g
  db : ∃ k h, k ≠ 0 ∧ Fn h ∧ PS.cst k * b = h * g
  be : ∃ k s t, k ≠ 0 ∧ Fn s ∧ Fn t ∧ PS.cst k * g = s * a + t * b
theorem GG.refl {g : PS} : GG g g 0 :=
  ⟨⟨1, 1, by decide, .one, by rw [PS.cst_one]⟩, ⟨1, 0, by decide, .zero, by rw [PS.cst_one]; grind⟩, ⟨1, 1, 0, by decide, .one, .zero, by rw [PS.cst_one]; grind⟩⟩
/-- one step -/
theorem GG.step {g f s r q : PS} {k c : Int} (hk : k ≠ 0) (hc : c ≠ 0) (hq : Fn q) (e : PS.cst c * r = PS.cst k * f - q * s) (h : GG g s r) : GG g f s := by
  obtain ⟨⟨k1, h1, n1, f1, e1⟩, ⟨k2, h2, n2, f2, e2⟩, ⟨k3, u, v, n3, f3, f4, e3⟩⟩ := h
  refine ⟨⟨k * k1 * k2, q * PS.cst k2 * h1 + PS.cst c * PS.cst k1 * h2, Int.mul_ne_zero (Int.mul_ne_zero hk n1) n2, ((hq.mul .cst).mul f1).add ((Fn.cst.mul .cst).mul f2), ?_⟩, ⟨k1, h1, n1, f1, e1⟩,
    ⟨c * k3, v * PS.cst k, PS.cst c * u - v * q, Int.mul_ne_zero hc n3, f4.mul .cst, (Fn.cst.mul f3).sub (f4.mul hq), ?_⟩⟩
  · rw [PS.cst_mul, PS.cst_mul]
    have e4 : PS.cst k * f = q * s + PS.cst c * r := by grind
    have e5 : PS.cst k * PS.cst k1 * PS.cst k2 * f = PS.cst k1 * PS.cst k2 * (PS.cst k * f) := by grind
    rw [e5, e4]
    grind
  · rw [PS.cst_mul]
    have e5 : PS.cst c * PS.cst k3 * g = PS.cst c * (PS.cst k3 * g) := by grind
    rw [e5, e3]
    grind
theorem GG.left {g f f' s : PS} {c : Int} (hc : c ≠ 0) (e : f = PS.cst c * f') (h : GG g f' s) : GG g f s := by
  obtain ⟨⟨k1, h1, n1, f1, e1⟩, h2, ⟨k3, u, v, n3, f3, f4, e3⟩⟩ := h
  refine ⟨⟨k1, PS.cst c * h1, n1, Fn.cst.mul f1, by rw [e]; grind⟩, h2, ⟨c * k3, u, PS.cst c * v, Int.mul_ne_zero hc n3, f3, Fn.cst.mul f4, ?_⟩⟩
  rw [PS.cst_mul, e]
  have : PS.cst c * PS.cst k3 * g = PS.cst c * (PS.cst k3 * g) := by grind
  rw [this, e3]
  grind
theorem GG.swap {g f s : PS} (h : GG g f s) : GG g s f := by
  obtain ⟨h1, h2, ⟨k3, u, v, n3, f3, f4, e3⟩⟩ := h
  exact ⟨h2, h1, ⟨k3, v, u, n3, f4, f3, by rw [e3]; grind⟩⟩
theorem prim_ne {g : PS} (h : Prim g) : g ≠ 0 := fun e => by
  have := h 2 fun n => by rw [e, PS.coe_zero]; exact Int.dvd_zero _
  omega
theorem GG.quot {g a b : PS} (hp : Prim g) (h : GG g a b) : ∃ L R, Fn L ∧ Fn R ∧ a = L * g ∧ b = R * g ∧ ∃ k s t, k ≠ 0 ∧ Fn s ∧ Fn t ∧ PS.cst k = s * L + t * R := by
  obtain ⟨⟨k1, h1, n1, f1, e1⟩, ⟨k2, h2, n2, f2, e2⟩, ⟨k3, u, v, n3, f3, f4, e3⟩⟩ := h
  obtain ⟨L, rfl⟩ := gauss hp n1 e1
  obtain ⟨R, rfl⟩ := gauss hp n2 e2
  have ea : a = L * g := PS.cancel (PS.cst_ne n1) (by grind)
  have eb : b = R * g := PS.cancel (PS.cst_ne n2) (by grind)
  refine ⟨L, R, f1.cancel n1, f2.cancel n2, ea, eb, k3, u, v, n3, f3, f4, ?_⟩
  refine PS.cancel (prim_ne hp) ?_
  rw [ea, eb] at e3
  grind
theorem top_of {f : PS} (h : Fn f) (h0 : f ≠ 0) : ∃ m, f m ≠ 0 ∧ dg f m := by
  obtain ⟨N, hN⟩ := h
  induction N with
  | zero =>
    refine ⟨0, fun z => h0 (PS.ps_ext fun n => ?_), hN⟩
    rw [PS.coe_zero]
    cases n with
    | zero => exact z
    | succ n => exact hN _ (by omega)
  | succ N ih =>
    by_cases q : f (N + 1) = 0
    · refine ih fun n hn => ?_
      by_cases e : n = N + 1
      · rw [e]; exact q
      · exact hN n (by omega)
    · exact ⟨N + 1, q, hN⟩
/-- a polynomial as a list -/
theorem as_list {f : PS} (h : Fn f) : ∃ l, Tr l ∧ T l = f := by
  by_cases h0 : f = 0
  · exact ⟨[], Tr_nil, by rw [h0, T_nil]⟩
  · obtain ⟨m, h1, h2⟩ := top_of h h0
    refine ⟨tab (m + 1) f, fun _ => ?_, T_tab fun k hk => h2 k (by omega)⟩
    have e1 : (tab (m + 1) f).length = m + 1 := tab_length
    have e2 := tab_at (n := m + 1) (f := f) m
    rw [if_pos (by omega)] at e2
    rw [e1]
    exact fun z => h1 (e2.symm.trans z)

/-! ### shifts; the resultant -/
def sh (p : Nat) (f : PS) : PS := fun n => if p ≤ n then f (n - p) else 0
theorem sh_zero {f : PS} : sh 0 f = f := PS.ps_ext fun n => if_pos (Nat.zero_le _)
theorem sh_succ {p : Nat} {f : PS} : sh (p + 1) f = PS.X * sh p f := PS.ps_ext fun n => by
  cases n with
  | zero => rw [PS.X_mul_zero]; exact if_neg (by omega)
  | succ n =>
    rw [PS.X_mul_succ]
    show (if p + 1 ≤ n + 1 then f (n + 1 - (p + 1)) else 0) = if p ≤ n then f (n - p) else 0
    by_cases h : p ≤ n
    · rw [if_pos h, if_pos (by omega), show n + 1 - (p + 1) = n - p by omega]
    · rw [if_neg h, if_neg (by omega)]
theorem sh_mul {p : Nat} {f g : PS} : sh p (f * g) = sh p f * g := by
  induction p with
  | zero => rw [sh_zero, sh_zero]
  | succ p ih => rw [sh_succ, sh_succ, ih]; grind
theorem sh_one_mul {p : Nat} {g : PS} : sh p 1 * g = sh p g := by
  rw [← sh_mul, show (1 : PS) * g = g by grind]
theorem sh_one_at {p n : Nat} : sh p 1 n = if n = p then 1 else 0 := by
  show (if p ≤ n then (if n - p = 0 then (1 : Int) else 0) else 0) = _
  by_cases h : n = p
  · subst h; rw [if_pos (Nat.le_refl _), if_pos (by omega), if_pos rfl]
  · rw [if_neg h]
    by_cases h1 : p ≤ n
    · rw [if_pos h1, if_neg (by omega)]
    · rw [if_neg h1]
theorem sh_fn {p : Nat} {f : PS} (h : Fn f) : Fn (sh p f) := by
  obtain ⟨N, h⟩ := h
  refine ⟨N + p, fun n hn => ?_⟩
  show (if p ≤ n then f (n - p) else 0) = 0
  rw [if_pos (by omega), h _ (by omega)]
/-- numbers as a polynomial -/
def po (c : Nat → Int) (m : Nat) : PS := sm (fun p => PS.cst (c p) * sh p 1) m
theorem po_at {c : Nat → Int} {m n : Nat} : po c m n = if n < m then c n else 0 := by
  unfold po
  rw [PS.coe_sm]
  by_cases h : n < m
  · rw [if_pos h, sm_one h fun k hk h1 => ?_]
    · rw [PS.coe_cst_mul, sh_one_at, if_pos rfl]; grind
    · rw [PS.coe_cst_mul, sh_one_at, if_neg (Ne.symm h1)]; grind
  · rw [if_neg h]
    exact sm_zero fun k hk => by
      rw [PS.coe_cst_mul, sh_one_at, if_neg (by omega)]; grind
theorem po_mul {c : Nat → Int} {m n : Nat} {f : PS} : (po c m * f) n = sm (fun p => c p * sh p f n) m := by
  have e : po c m * f = sm (fun p => PS.cst (c p) * sh p f) m := by
    unfold po
    rw [← sm_mulr]
    exact sm_congr fun p _ => by rw [← sh_one_mul (g := f)]; grind
  rw [e, PS.coe_sm]
  exact sm_congr fun p _ => PS.coe_cst_mul _ _ _
theorem po_fn {c : Nat → Int} {m : Nat} : Fn (po c m) := ⟨m, fun n hn => by rw [po_at, if_neg (by omega)]⟩
/-- the rows of the resultant of two lists -/
def syl (l r : List Int) : VL Int := fun p i => if p < r.length - 1 then sh p (T l) i else sh (p - (r.length - 1)) (T r) i
theorem res_ne {l r : List Int} (hl : Tr l) (hr : Tr r) (l0 : 0 < l.length) (r0 : 0 < r.length) {k : Int} {s t : PS} (hk : k ≠ 0) (fs : Fn s) (ft : Fn t) (e : PS.cst k = s * T l + t * T r) : D (l.length + r.length - 2) (syl l r) ≠ 0 := by
  intro z
  obtain ⟨c, ⟨p, hp, hc⟩, hrel⟩ := rel_of_det z
  let A := po c (r.length - 1)
  let B := po (fun q => c (r.length - 1 + q)) (l.length - 1)
  have dl : dg (T l) (l.length - 1) := T_dg (by omega)
  have dr : dg (T r) (r.length - 1) := T_dg (by omega)
  have key : A * T l + B * T r = 0 := PS.ps_ext fun i => by
    rw [PS.coe_zero, PS.coe_add]
    by_cases hi : i < l.length + r.length - 2
    · have h1 := hrel i hi
      have h2 : sm (fun p => c p * syl l r p i) (l.length + r.length - 2) = sm (fun p => if p < r.length - 1 then c p * sh p (T l) i else c p * sh (p - (r.length - 1)) (T r) i) (l.length + r.length - 2) := sm_congr fun p _ => by
        unfold syl
        by_cases h : p < r.length - 1
        · rw [if_pos h, if_pos h]
        · rw [if_neg h, if_neg h]
      rw [h2, sm_split (by omega), show l.length + r.length - 2 - (r.length - 1) = l.length - 1 by omega] at h1
      rw [po_mul, po_mul]
      rw [← h1]
      congr 1
      exact sm_congr fun q _ => by
        show _ = c (r.length - 1 + q) * sh (r.length - 1 + q - (r.length - 1)) (T r) i
        rw [show r.length - 1 + q - (r.length - 1) = q by omega]
    · have h1 : (A * T l) i = 0 := by
        rw [po_mul]
        exact sm_zero fun q hq => by
          show c q * (if q ≤ i then T l (i - q) else 0) = 0
          rw [if_pos (by omega), T_over (by omega)]; grind
      have h2 : (B * T r) i = 0 := by
        rw [po_mul]
        exact sm_zero fun q hq => by
          show c (r.length - 1 + q) * (if q ≤ i then T r (i - q) else 0) = 0
          rw [if_pos (by omega), T_over (by omega)]; grind
      rw [h1, h2]; rfl
  have r1 : T r (r.length - 1) ≠ 0 := hr r0
  have key2 : PS.cst k * A = T r * (t * A - s * B) := by
    rw [e]
    have : A * T l = - (B * T r) := by grind
    grind
  have zA : A = 0 := by
    have zX : t * A - s * B = 0 := Classical.byContradiction fun hX => by
      obtain ⟨m, h1, h2⟩ := top_of ((ft.mul po_fn).sub (fs.mul po_fn)) hX
      have h3 := PS.top dr h2
      have h4 : A (r.length - 1 + m) = 0 := by
        show po c (r.length - 1) _ = 0
        rw [po_at, if_neg (by omega)]
      have h5 : (PS.cst k * A) (r.length - 1 + m) = (T r * (t * A - s * B)) (r.length - 1 + m) := by rw [key2]
      rw [PS.coe_cst_mul, h4] at h5
      have h6 := h5.trans h3
      have := Int.mul_ne_zero r1 h1
      grind
    rw [zX] at key2
    refine PS.cancel (PS.cst_ne hk) ?_
    grind
  have zB : B = 0 := by
    rw [zA] at key
    rcases PS.mul_null (f := B) (g := T r) (by grind) with q | q
    · exact q
    · rw [q, PS.coe_zero] at r1
      exact absurd rfl r1
  by_cases h : p < r.length - 1
  · have h1 : po c (r.length - 1) p = 0 := by
      rw [show po c (r.length - 1) = 0 from zA, PS.coe_zero]
    rw [po_at, if_pos h] at h1
    exact hc h1
  · have h1 : po (fun q => c (r.length - 1 + q)) (l.length - 1) (p - (r.length - 1)) = 0 := by
      rw [show po (fun q => c (r.length - 1 + q)) (l.length - 1) = 0 from zB, PS.coe_zero]
    rw [po_at, if_pos (by omega), show r.length - 1 + (p - (r.length - 1)) = p by omega] at h1
    exact hc h1
end Mat
set_option Elab.async false
set_option linter.all false
namespace Mat
open PS (dg)

/-! ### differences, products, contents of lists -/
def subP (a b : List Int) : List Int := trimP (tab (max a.length b.length) fun k => a.getD k 0 - b.getD k 0)
theorem subP_T {a b : List Int} : T (subP a b) = T a - T b := by
  unfold subP
  rw [trimP_T]
  refine PS.ps_ext fun n => ?_
  rw [T_at, tab_at, PS.coe_sub]
  by_cases h : n < max a.length b.length
  · rw [if_pos h]; rfl
  · rw [if_neg h, T_over (by omega), T_over (by omega)]; rfl
theorem subP_Tr {a b : List Int} : Tr (subP a b) := trimP_Tr
theorem subP_len {a b : List Int} : (subP a b).length ≤ max a.length b.length := by
  unfold subP
  have := trimP_le (l := tab (max a.length b.length) fun k => a.getD k 0 - b.getD k 0)
  rw [tab_length] at this
  exact this
def mulP (a b : List Int) : List Int := if a.length = 0 ∨ b.length = 0 then [] else tab (a.length + b.length - 1) fun n => (T a * T b) n
theorem mul_over {a b : List Int} {n : Nat} (h : a.length + b.length - 1 ≤ n) : (T a * T b) n = 0 := by
  by_cases h0 : a.length = 0
  · rw [List.length_eq_zero_iff.mp h0, T_nil, show (0 : PS) * T b = 0 by grind, PS.coe_zero]
  · by_cases h1 : b.length = 0
    · rw [List.length_eq_zero_iff.mp h1, T_nil, show T a * (0 : PS) = 0 by grind, PS.coe_zero]
    · exact PS.dg_mul (T_dg (m := a.length - 1) (by omega)) (T_dg (m := b.length - 1) (by omega)) n (by omega)
theorem mulP_T {a b : List Int} : T (mulP a b) = T a * T b := by
  unfold mulP
  by_cases h : a.length = 0 ∨ b.length = 0
  · rw [if_pos h]
    rcases h with h | h
    · rw [List.length_eq_zero_iff.mp h, T_nil]; grind
    · rw [List.length_eq_zero_iff.mp h, T_nil]; grind
  · rw [if_neg h]
    exact T_tab fun k hk => mul_over hk
theorem mulP_length {a b : List Int} (h0 : a.length ≠ 0) (h1 : b.length ≠ 0) : (mulP a b).length = a.length + b.length - 1 := by
  unfold mulP
  rw [if_neg (by omega), tab_length]
theorem mulP_nil {a b : List Int} (h : a.length = 0 ∨ b.length = 0) : mulP a b = [] := if_pos h
theorem mulP_Tr {a b : List Int} (ha : Tr a) (hb : Tr b) : Tr (mulP a b) := fun h => by
  by_cases h0 : a.length = 0 ∨ b.length = 0
  · rw [mulP_nil h0] at h
    exact absurd h (by decide)
  · have e : (mulP a b).length = a.length + b.length - 1 := mulP_length (by omega) (by omega)
    rw [e, ← T_at, mulP_T, show a.length + b.length - 1 - 1 = (a.length - 1) + (b.length - 1) by omega, PS.top (T_dg (by omega)) (T_dg (by omega))]
    exact Int.mul_ne_zero (ha (by omega)) (hb (by omega))

def contN (l : List Int) : Nat → Nat
  | 0 => 0
  | i + 1 => Nat.gcd (contN l i) (l.getD i 0).natAbs
def cont (l : List Int) : Nat := contN l l.length
theorem contN_dvd {l : List Int} {k : Nat} : ∀ {i : Nat}, k < i → contN l i ∣ (l.getD k 0).natAbs
  | i + 1, h => by
    by_cases e : k = i
    · subst e; exact Nat.gcd_dvd_right _ _
    · exact Nat.dvd_trans (Nat.gcd_dvd_left _ _) (contN_dvd (by omega))
theorem cont_dvd (l : List Int) (k : Nat) : (cont l : Int) ∣ l.getD k 0 := by
  by_cases h : k < l.length
  · exact Int.natAbs_dvd_natAbs.mp (contN_dvd h)
  · rw [getD_over (by omega)]; exact Int.dvd_zero _
theorem dvd_contN {l : List Int} {d : Nat} (h : ∀ k, (d : Int) ∣ l.getD k 0) : ∀ i, d ∣ contN l i
  | 0 => Nat.dvd_zero d
  | i + 1 => Nat.dvd_gcd (dvd_contN h i) (by
    have := Int.natAbs_dvd_natAbs.mpr (h i)
    rw [Int.natAbs_natCast] at this
    exact this)
theorem cont_zero {l : List Int} (h : cont l = 0) : T l = 0 := PS.ps_ext fun n => by
  have := cont_dvd l n
  rw [h] at this
  rw [PS.coe_zero]
  exact Int.zero_dvd.mp this
theorem cont_ne {l : List Int} (h : Tr l) (h0 : 0 < l.length) : cont l ≠ 0 := fun z => h h0 (by
  have := congrFun (cont_zero z) (l.length - 1)
  rw [PS.coe_zero] at this
  exact this)
/-- the content with the last number's sign -/
def sgl (l : List Int) : Int := if l.getD (l.length - 1) 0 < 0 then - (cont l : Int) else cont l
theorem sgl_ne {l : List Int} (h : cont l ≠ 0) : sgl l ≠ 0 := by unfold sgl; split <;> omega
theorem sgl_dvd (l : List Int) (k : Nat) : sgl l ∣ l.getD k 0 := by
  unfold sgl
  split
  · exact Int.neg_dvd.mpr (cont_dvd l k)
  · exact cont_dvd l k
def prim (l : List Int) : List Int := if cont l = 0 then [] else l.map fun x => x.fdiv (sgl l)
theorem map_at {l : List Int} {f : Int → Int} (h : f 0 = 0) (k : Nat) : (l.map f).getD k 0 = f (l.getD k 0) := by
  rw [List.getD_eq_getElem?_getD, List.getD_eq_getElem?_getD, List.getElem?_map]
  cases l[k]? with
  | none => exact h.symm
  | some a => rfl
theorem fdiv_of {a b c : Int} (h : c ≠ 0) (e : a = c * b) : a.fdiv c = b := by
  rw [e]
  exact Int.mul_fdiv_cancel_left b h
theorem prim_length {l : List Int} (h : cont l ≠ 0) : (prim l).length = l.length := by
  unfold prim
  rw [if_neg h, List.length_map]
theorem prim_at {l : List Int} (h : cont l ≠ 0) (k : Nat) : l.getD k 0 = sgl l * (prim l).getD k 0 := by
  unfold prim
  rw [if_neg h, map_at (f := fun x => x.fdiv (sgl l)) (Int.zero_fdiv _)]
  obtain ⟨b, e⟩ := sgl_dvd l k
  rw [fdiv_of (sgl_ne h) e]
  exact e
theorem prim_T {l : List Int} : ∃ c, c ≠ 0 ∧ T l = PS.cst c * T (prim l) := by
  by_cases h : cont l = 0
  · refine ⟨1, by decide, ?_⟩
    rw [cont_zero h]
    have : prim l = [] := if_pos h
    rw [this, T_nil]
    grind
  · exact ⟨sgl l, sgl_ne h, PS.ps_ext fun n => by rw [PS.coe_cst_mul]; exact prim_at h n⟩
theorem prim_Tr {l : List Int} (hl : Tr l) : Tr (prim l) := fun h => by
  by_cases h0 : cont l = 0
  · have : prim l = [] := if_pos h0
    rw [this] at h
    exact absurd h (by decide)
  · rw [prim_length h0] at h ⊢
    intro z
    have := prim_at h0 (l.length - 1)
    rw [z] at this
    exact hl h (by rw [this]; exact Int.mul_zero _)
theorem prim_len {l : List Int} : (prim l).length ≤ l.length := by
  by_cases h : cont l = 0
  · have : prim l = [] := if_pos h
    rw [this]; exact Nat.zero_le _
  · rw [prim_length h]; exact Nat.le_refl _
/-- a list with content 1 whose last number is no less than 0 -/
structure PL (l : List Int) : Prop where
  one : cont l = 1
  pos : 0 < l.getD (l.length - 1) 0
theorem prim_PL {l : List Int} (hl : Tr l) (h0 : 0 < l.length) : PL (prim l) := by
  have hc := cont_ne hl h0
  refine ⟨?_, ?_⟩
  · have h1 : ∀ k, ((cont l * cont (prim l) : Nat) : Int) ∣ l.getD k 0 := fun k => by
      rw [prim_at hc k, Int.natCast_mul]
      have h2 : (cont l : Int) ∣ sgl l := by
        unfold sgl
        split
        · exact Int.dvd_neg.mpr (Int.dvd_refl _)
        · exact Int.dvd_refl _
      exact Int.mul_dvd_mul h2 (cont_dvd (prim l) k)
    have h2 := dvd_contN h1 l.length
    have h3 := Nat.le_of_dvd (by have : contN l l.length = cont l := rfl
                                 omega) h2
    have h4 : contN l l.length = cont l := rfl
    rw [h4] at h3
    have h5 : cont (prim l) ≠ 0 := cont_ne (prim_Tr hl) (by rw [prim_length hc]; exact h0)
    have h6 : cont (prim l) ≤ 1 := Nat.not_lt.mp fun h => by
      have : cont l * 1 < cont l * cont (prim l) := Nat.mul_lt_mul_of_pos_left h (by omega)
      omega
    omega
  · rw [prim_length hc]
    have h1 := prim_at hc (l.length - 1)
    have h2 := hl h0
    have h3 : sgl l = if l.getD (l.length - 1) 0 < 0 then - (cont l : Int) else cont l := rfl
    by_cases h : l.getD (l.length - 1) 0 < 0
    · rw [if_pos h] at h3
      have hpos : 0 < (cont l : Int) * (prim l).getD (l.length - 1) 0 := by
        rw [h3, Int.neg_mul] at h1
        omega
      exact Int.pos_of_mul_pos_right hpos (by omega)
    · rw [if_neg h] at h3
      have hpos : 0 < (cont l : Int) * (prim l).getD (l.length - 1) 0 := by
        rw [h3] at h1
        omega
      exact Int.pos_of_mul_pos_right hpos (by omega)
theorem PL.prim {l : List Int} (h : PL l) : Mat.prim l = l := by
  have hc : cont l ≠ 0 := by rw [h.one]; decide
  refine list_ext (prim_length hc) fun k _ => ?_
  have h1 := prim_at hc k
  have h3 : sgl l = 1 := by
    unfold sgl
    have := h.pos
    rw [if_neg (by omega), h.one]; rfl
  rw [h3] at h1
  omega
theorem PL.Prim {l : List Int} (h : PL l) : Prim (T l) := fun d hd => by
  have := dvd_contN hd l.length
  rw [show contN l l.length = cont l from rfl, h.one] at this
  exact Nat.dvd_one.mp this
theorem PL.Tr {l : List Int} (h : PL l) : Tr l := fun _ z => by
  have := h.pos
  omega
theorem PL.len {l : List Int} (h : PL l) : 0 < l.length := Nat.pos_of_ne_zero fun z => by
  have := h.pos
  rw [List.length_eq_zero_iff.mp z] at this
  exact absurd this (by decide)
end Mat
set_option Elab.async false
set_option linter.all false
set_option maxRecDepth 100000
set_option maxHeartbeats 1000000
/-! DL6: comprehensions and changes of lists of ints. -/
namespace DL
open PySem PySem.Spec PyProof.Rows L2
open Mat (tab tab_length tab_at)
section
variable {K : PySem.W.Frag} {ρ : Env} {w : Wd} {Q : Dat → Wd → Prop} {x y : Dat} {i : Int} {Po : Post} {to ti te ta tb : TE} {g : TG} {vs : List Nat} {t : TS} {n m : Nat}

theorem tab_dat {n : Nat} {g : Nat → Int} : (List.range n).map (fun i => Dat.int (g i)) = (tab n g).map Dat.int := by
  unfold tab
  rw [List.map_map]
  rfl
/-- [g(i) for i in range(n)], an int each -/
theorem xd_lcR1I {ar : TA} (gw : GW g vs) (h : AD K ar ρ w fun ds w0 => ∃ (n : Int) (f : Nat → Int), ds = [.int n] ∧ n ≤ 1000000 ∧ -1000000 ≤ n ∧
    (∀ (i : Nat) (w' : Wd), (i : Int) < n → sub w0 w' → GD K g (.int i) (wipeD ρ vs) w' fun ρ2 w2 => w2 = w' ∧ XD K te ρ2 w' fun y w3 => w3 = w' ∧ y = .int (f i)) ∧
    Q (dI (tab n.toNat f)) w0) : XD K (tLc (iRng1 ar) g tYes te vs) ρ w Q :=
  xd_frz (xd_lcR1P gw (ad_mono h fun ds w0 ⟨n, f, e, h1, h2, hs, q⟩ => ⟨n, e, h1, h2, fun i => .int (f i), hs, frz_new (by rw [tab_dat]; exact q)⟩))
/-- .. to be changed later -/
theorem xd_lcR1J {ar : TA} (gw : GW g vs) (h : AD K ar ρ w fun ds w0 => ∃ (n : Int) (f : Nat → Int), ds = [.int n] ∧ n ≤ 1000000 ∧ -1000000 ≤ n ∧
    (∀ (i : Nat) (w' : Wd), (i : Int) < n → sub w0 w' → GD K g (.int i) (wipeD ρ vs) w' fun ρ2 w2 => w2 = w' ∧ XD K te ρ2 w' fun y w3 => w3 = w' ∧ y = .int (f i)) ∧
    ∀ p, w0 p = none → Q (.obj p) (w0.put p ((tab n.toNat f).map .int))) : XD K (tLc (iRng1 ar) g tYes te vs) ρ w Q :=
  xd_lcR1P gw (ad_mono h fun ds w0 ⟨n, f, e, h1, h2, hs, q⟩ => ⟨n, e, h1, h2, fun i => .int (f i), hs, fun p hp => by rw [tab_dat]; exact q p hp⟩)
theorem range_map_get {α β : Type} {xs : List α} {f : Nat → β} {g : α → β} (h : ∀ (i : Nat) (x : α), xs[i]? = some x → f i = g x) : (List.range xs.length).map f = xs.map g := by
  refine List.ext_getElem (by simp) fun k h1 h2 => ?_
  rw [List.getElem_map, List.getElem_map, List.getElem_range]
  have hk : k < xs.length := by simpa using h2
  exact h k _ (List.getElem?_eq_getElem hk)
/-- [g(x) for x in xs], xs a list that is data -/
theorem xd_lcLG {tl : TE} (gw : GW g vs) (h : XD K tl ρ w fun d w0 => ∃ xs, Fz d xs ∧ xs.length ≤ 1000000 ∧ ∃ f : Dat → Dat,
    (∀ (i : Nat) (x : Dat) (w' : Wd), xs[i]? = some x → sub w0 w' → GD K g x (wipeD ρ vs) w' fun ρ2 w2 => w2 = w' ∧ XD K te ρ2 w' fun y w3 => w3 = w' ∧ y = f x) ∧
    Q (.lst (xs.map f)) w0) : XD K (tLc (iList K tl) g tYes te vs) ρ w Q :=
  xd_frz (xd_lcLP gw (xd_mono h fun d w0 ⟨xs, hz, h1, f, hs, q⟩ => ⟨xs, hz, h1, fun i => f (xs.getD i .non), fun i x w' hx s => by
    dsimp only
    rw [List.getD_eq_getElem?_getD, hx]
    exact hs i x w' hx s, frz_new (by
      rw [range_map_get (g := f) fun i x hx => by rw [List.getD_eq_getElem?_getD, hx]; rfl]
      exact q)⟩))
/-- .. of ints -/
theorem xd_lcLI {tl : TE} (gw : GW g vs) (h : XD K tl ρ w fun d w0 => ∃ ns : List Int, d = dI ns ∧ ns.length ≤ 1000000 ∧ ∃ f : Int → Int,
    (∀ (a : Int) (w' : Wd), a ∈ ns → sub w0 w' → GD K g (.int a) (wipeD ρ vs) w' fun ρ2 w2 => w2 = w' ∧ XD K te ρ2 w' fun y w3 => w3 = w' ∧ y = .int (f a)) ∧
    Q (dI (ns.map f)) w0) : XD K (tLc (iList K tl) g tYes te vs) ρ w Q := by
  refine xd_frz (xd_lcLP gw (xd_mono h fun d w0 hq => ?_))
  obtain ⟨ns, rfl, h1, f, hs, q⟩ := hq
  refine ⟨_, .lst _, by rw [List.length_map]; exact h1, fun i => .int (f (ns.getD i 0)), fun i x w' hx s => ?_, frz_new ?_⟩
  · rw [List.getElem?_map] at hx
    cases e : ns[i]? with
    | none => rw [e] at hx; cases hx
    | some a =>
      rw [e] at hx
      cases hx
      dsimp only
      rw [List.getD_eq_getElem?_getD, e]
      exact hs a w' (List.mem_of_getElem? e) s
  · rw [List.length_map, range_map_get (g := fun a => Dat.int (f a)) fun i x hx => by rw [List.getD_eq_getElem?_getD, hx]; rfl]
    have : ns.map (fun a => Dat.int (f a)) = (ns.map f).map Dat.int := by rw [List.map_map]; rfl
    rw [this]
    exact q
theorem list_ix {ns : List Int} {k : Nat} (h : k < ns.length) : (ns.map Dat.int)[k]? = some (.int (ns.getD k 0)) := by
  rw [List.getElem?_map, List.getD_eq_getElem?_getD, List.getElem?_eq_getElem h]
  rfl
theorem set_dat {ns : List Int} {k : Nat} {v : Int} : (ns.map Dat.int).set k (.int v) = (ns.set k v).map Dat.int := by rw [List.map_set]
/-- xs[i] = v -/
theorem gd_subI {v : Int} {Q : Env → Wd → Prop} (h : XD K to ρ w fun o w1 => XD K ti ρ w1 fun ix w2 => ∃ (p : Addr) (ns : List Int) (k : Int), o = .obj p ∧ ix = .int k ∧ w2 p = some (ns.map .int) ∧ 0 ≤ k ∧ k < ns.length ∧ Q ρ (w2.put p ((ns.set k.toNat v).map .int))) : GD K (gSub to ti rSetL) (.int v) ρ w Q :=
  gd_sub (xd_mono h fun o w1 h1 => xd_mono h1 fun ix w2 ⟨p, ns, k, e1, e2, hp, h0, hk, q⟩ => ⟨p, _, k, k.toNat, e1, e2, hp, ixN_ok h0 (by rw [List.length_map]; exact hk), by rw [set_dat]; exact q⟩)
/-- xs[i] op= e -/
theorem sd_augI {tip : TIp} (h : XD K to ρ w fun o w1 => XD K ti ρ w1 fun ix w2 => ∃ (p : Addr) (ns : List Int) (k : Int), o = .obj p ∧ ix = .int k ∧ w2 p = some (ns.map .int) ∧ 0 ≤ k ∧ k < ns.length ∧
    XD K te ρ w2 fun y w3 => OD K tip (.int (ns.getD k.toNat 0)) y w3 fun z w4 => w4 = w2 ∧ ∃ v, z = .int v ∧ Po.nx ρ (w2.put p ((ns.set k.toNat v).map .int))) : SD K (tAugS to ti te (rIxL K) tip rSetL) ρ w Po := by
  refine sd_augS (xd_mono h fun o w1 h1 => xd_mono h1 fun ix w2 h2 => ?_)
  obtain ⟨p, ns, k, e1, e2, hp, h0, hk, h3⟩ := h2
  refine ⟨p, _, k, k.toNat, .int (ns.getD k.toNat 0), e1, e2, hp, ixN_ok h0 (by rw [List.length_map]; exact hk), list_ix (by omega), xd_mono h3 fun y w3 h4 => ?_⟩
  intro H u v Qv c r1 r2 kk
  refine h4 H u v Qv c r1 r2 fun z w4 zv H4 e4 c4 r4 q => kk z w4 zv H4 e4 c4 r4 ?_
  obtain ⟨rfl, v, rfl, q⟩ := q
  exact ⟨_, k.toNat, hp, ixN_ok h0 (by rw [List.length_map]; exact hk), by rw [set_dat]; exact q⟩
theorem getD_set {ns : List Int} {k : Nat} {v : Int} (j : Nat) (h : k < ns.length) : (ns.set k v).getD j 0 = if j = k then v else ns.getD j 0 := by
  rw [List.getD_eq_getElem?_getD, List.getD_eq_getElem?_getD]
  by_cases e : j = k
  · subst e
    rw [if_pos rfl, List.getElem?_set_self h]
    rfl
  · rw [if_neg e, List.getElem?_set_ne (Ne.symm e)]
/-- a walk over ints -/
theorem sd_forI {tl : TE} (h : XD K tl ρ w fun d w0 => ∃ ns : List Int, d = dI ns ∧ ∃ J : Nat → Env → Wd → Prop, J 0 ρ w0 ∧
    (∀ (i : Nat) (ρ' : Env) (w' : Wd), i < ns.length → J i ρ' w' → GD K g (.int (ns.getD i 0)) ρ' w' fun ρ2 w2 => SD K t ρ2 w2 { nx := J (i + 1), ct := J (i + 1), bk := Po.nx, rt := Po.rt }) ∧
    ∀ ρ' w', J ns.length ρ' w' → Po.nx ρ' w') : SD K (tFor (iList K tl) g t) ρ w Po := by
  refine sd_forL (xd_mono h fun d w0 hq => ?_)
  obtain ⟨ns, rfl, J, j0, step, fin⟩ := hq
  refine ⟨_, .lst _, J, j0, fun i x ρ' w' hx j => ?_, fun ρ' w' j => fin ρ' w' (by rw [List.length_map] at j; exact j)⟩
  have hi : i < ns.length := by
    have := (List.getElem?_eq_some_iff.mp hx).1
    rwa [List.length_map] at this
  rw [list_ix hi] at hx
  cases hx
  exact step i ρ' w' hi j
/-- a < b < c -/
theorem xd_chain {r r' : R2} {tc : TE} (h : XD K ta ρ w fun x w1 => XD K tb ρ w1 fun y w2 => OD K r x y w2 fun z w3 => ∃ k, z = .bl k ∧ (k = true → XD K tc ρ w3 fun u w4 => OD K r' y u w4 Q) ∧ (k = false → Q (.bl false) w3)) : XD K (tChain r r' ta tb tc) ρ w Q := by
  intro σ H Qv a b k
  refine h σ H _ a b fun x w1 xv H1 e1 c1 r1 h1 => ?_
  refine h1 σ H1 _ (a.ext e1) c1 fun y w2 yv H2 e2 c2 r2 h2 => ?_
  refine h2 H2 xv yv _ c2 (rd_ext e2 r1) r2 fun z w3 zv H3 e3 c3 r3 h3 => ?_
  obtain ⟨q, rfl, ht, hf⟩ := h3
  refine ⟨q, r3, ?_⟩
  have e13 := e1.trans (e2.trans e3)
  cases q with
  | false =>
    rw [if_neg Bool.false_ne_true]
    exact k (.bl false) w3 _ H3 e13 c3 rfl (hf rfl)
  | true =>
    rw [if_pos rfl]
    refine ht rfl σ H3 _ (a.ext e13) c3 fun u w4 uv H4 e4 c4 r4 h4 => ?_
    exact h4 H4 yv uv Qv c4 (rd_ext (e3.trans e4) r2) r4 fun d w5 dv H5 e5 c5 r5 q5 => k d w5 dv H5 (e13.trans (e4.trans e5)) c5 r5 q5
/-- where the text divides -/
theorem plain_of {P : Program} {wo : World} {mg : Str → Option Value} {base : Heap} {N : List Str} {qual : Str} {sc : Scope} {f : Addr} {cd : Value} {A : Around} {outer : List PySem.Env} {s : Shared} {H : Hp} {E : XK} {k : Nat} (hS : base.NoSeer) (hT : P.given.tree = none)
    (hr : Room k (A.deeper (envOfC qual sc s.heap.objs.size f cd))) (hk : 35 ≤ k) (h1 : sc.isGenerator = false) (h2 : sc.isCoroutine = false) : Plain (cxOf CX0 P wo K mg base N qual sc f cd A outer s H E).nox :=
  ⟨hS, hT, ⟨_, _, rfl, h1, h2, rfl, rfl⟩, by
    have := hr.dp
    show (A.deeper (envOfC qual sc s.heap.objs.size f cd)).depth + 100 < recursionLimit
    omega⟩
theorem md_appI {p : Addr} {ns : List Int} {v : Int} (h : w p = some (ns.map .int)) (hl : ns.length ≤ 1000000) (q : Q .non (w.put p ((ns ++ [v]).map .int))) : MD K rAppend (.obj p) [.int v] w Q :=
  md_append h (by rw [List.length_map]; exact Nat.lt_of_le_of_lt hl (by decide)) (by rw [List.map_append] at q; exact q)
theorem md_popI {p : Addr} {ns : List Int} (h : w p = some (ns.map .int)) (h0 : 0 < ns.length) (q : Q (.int (ns.getD (ns.length - 1) 0)) (w.put p (ns.dropLast.map .int))) : MD K rPop (.obj p) [] w Q :=
  md_pop h (by rw [List.length_map]; exact list_ix (by omega)) (by rw [← List.map_dropLast]; exact q)
theorem cd_allI {bs : List Bool} {xs : List Dat} (e : xs = bs.map .bl) (s : SqD w x xs) (q : Q (.bl (bs.all id)) w) : CD K (rAll K) [x] w Q := cd_all (by rw [← e]; exact s) q
theorem cd_anyI {bs : List Bool} {xs : List Dat} (e : xs = bs.map .bl) (s : SqD w x xs) (q : Q (.bl (bs.any id)) w) : CD K (rAny K) [x] w Q := cd_any (by rw [← e]; exact s) q
theorem sd_cut {u : TS} (Iv : Env → Wd → Prop) (h : SD K t ρ w { Po with nx := Iv }) (h2 : ∀ ρ' w', Iv ρ' w' → SD K u ρ' w' Po) : SD K (tSeq t u) ρ w Po :=
  sd_seq (sd_mono h h2 (fun _ _ q => q) (fun _ _ q => q) fun _ _ q => q)
theorem sd_to (Iv : Env → Wd → Prop) (h : SD K t ρ w { Po with nx := Iv }) (h2 : ∀ ρ' w', Iv ρ' w' → Po.nx ρ' w') : SD K t ρ w Po :=
  sd_mono h h2 (fun _ _ q => q) (fun _ _ q => q) fun _ _ q => q
theorem set_datM {rows : List (List Int)} {k : Nat} {r : List Int} : (dM rows).set k (dI r) = dM (rows.set k r) := by
  show (rows.map _).set k _ = (rows.set k r).map _
  rw [List.map_set]
theorem gd_subM {r : List Int} {Q : Env → Wd → Prop} (h : XD K to ρ w fun o w1 => XD K ti ρ w1 fun ix w2 => ∃ (p : Addr) (rows : List (List Int)) (k : Int), o = .obj p ∧ ix = .int k ∧ w2 p = some (dM rows) ∧ 0 ≤ k ∧ k < rows.length ∧ Q ρ (w2.put p (dM (rows.set k.toNat r)))) : GD K (gSub to ti rSetL) (dI r) ρ w Q :=
  gd_sub (xd_mono h fun o w1 h1 => xd_mono h1 fun ix w2 ⟨p, rows, k, e1, e2, hp, h0, hk, q⟩ => ⟨p, _, k, k.toNat, e1, e2, hp, ixN_ok h0 (by rw [List.length_map]; exact hk), by rw [set_datM]; exact q⟩)
theorem getD_setM {rows : List (List Int)} {k : Nat} {r : List Int} (j : Nat) (h : k < rows.length) : (rows.set k r).getD j [] = if j = k then r else rows.getD j [] := by
  rw [List.getD_eq_getElem?_getD, List.getD_eq_getElem?_getD]
  by_cases e : j = k
  · subst e
    rw [if_pos rfl, List.getElem?_set_self h]
    rfl
  · rw [if_neg e, List.getElem?_set_ne (Ne.symm e)]
theorem md_appM {p : Addr} {rows : List (List Int)} {r : List Int} (h : w p = some (dM rows)) (hl : rows.length ≤ 1000000) (q : Q .non (w.put p (dM (rows ++ [r])))) : MD K rAppend (.obj p) [dI r] w Q :=
  md_append h (by rw [List.length_map]; exact Nat.lt_of_le_of_lt hl (by decide)) (by
    have : dM (rows ++ [r]) = dM rows ++ [dI r] := List.map_append
    rw [← this]; exact q)
theorem od_ixIN {ns : List Int} {k : Nat} (s : Sq w x (ns.map .int)) (h1 : k < ns.length) (q : Q (.int (ns.getD k 0)) w) : OD K (rIx K) x (.int (k : Nat)) w Q :=
  od_ixI s (by omega) (by omega) (by rw [Int.toNat_natCast]; exact q)
theorem od_ixMN {rows : List (List Int)} {k : Nat} (s : Sq w x (dM rows)) (h1 : k < rows.length) (q : Q (dI (rows.getD k [])) w) : OD K (rIx K) x (.int (k : Nat)) w Q :=
  od_ixM s (by omega) (by omega) (by rw [Int.toNat_natCast]; exact q)
theorem Wd.at2 {w : Wd} {p q : Addr} {A B : List Dat} (h : p ≠ q) : ((w.put p A).put q B) p = some A := by rw [Wd.put_ne h, Wd.put_same]
theorem Wd.set2 {w : Wd} {p q : Addr} {A A' B : List Dat} (h : p ≠ q) : ((w.put p A).put q B).put p A' = (w.put p A').put q B := by rw [Wd.put_comm (Ne.symm h), Wd.put_put]
theorem Wd.new_ne {w : Wd} {p q : Addr} {A : List Dat} (h : (w.put p A) q = none) : p ≠ q := by
  rintro rfl
  rw [Wd.put_same] at h
  cases h
theorem Wd.new_old {w : Wd} {p q : Addr} {A : List Dat} (h : (w.put p A) q = none) : w q = none := by
  rw [Wd.put_ne (Ne.symm (Wd.new_ne h))] at h
  exact h
theorem Wd.del2 {w : Wd} {p q : Addr} {A B : List Dat} (h : p ≠ q) (hp : w p = none) : ((w.put p A).put q B).del p = w.put q B := by
  rw [Wd.put_comm h, Wd.del_put]
  rw [Wd.put_ne h]
  exact hp
theorem od_isL {ds : List Dat} (q : Q (.bl false) w) : OD K (fun x y H Q => y = .non ∧ Q (.bl (decide (x = .non))) H) (.lst ds) .non w Q := fun H u v Qv c r1 r2 k => by
  obtain ⟨p, vs, rfl, _⟩ := r1
  refine ⟨r2, ?_⟩
  rw [decide_eq_false (by simp)]
  exact k (.bl false) w _ H Ext.refl c rfl q
/-- a result, frozen where it is a mutable list -/
def RF (R : Dat → Wd → Prop) : Dat → Wd → Prop := fun d w' => R d w' ∨ ∃ p ds, d = .obj p ∧ w' p = some ds ∧ R (.lst ds) (w'.del p)
theorem RF.new {R : Dat → Wd → Prop} {p : Addr} {w : Wd} {ds : List Dat} (h : w p = none) (q : R (.lst ds) w) : RF R (.obj p) (w.put p ds) := .inr ⟨p, ds, rfl, Wd.put_same, by rw [Wd.del_put h]; exact q⟩
theorem sd_rf {R : Dat → Wd → Prop} (h : SD K t ρ w { nx := fun _ w' => R .non w', rt := RF R }) : SD K t ρ w { nx := fun _ w' => R .non w', rt := R } := fun σ H De a b S =>
  h σ H De a b ⟨S.nx, fun d w' v H' e c r q => by
    rcases q with q | ⟨p, ds, rfl, hp, q⟩
    · exact S.rt d w' v H' e c r q
    · obtain ⟨us, hv, ru⟩ := c p ds hp
      have e2 : Ext w' (w'.del p) H' H' := sub_del.ext
      exact S.rt (.lst ds) _ v H' (e.trans e2) (c.sub sub_del) ⟨p, us, r, ⟨by unfold Wd.del; rw [if_pos rfl], hv⟩, rds_ext e2 ru⟩ q, fun _ _ _ _ _ _ _ q => q.elim, fun _ _ _ _ _ _ _ q => q.elim⟩
theorem Plain.blk {X : Cx} (h : Plain X) {s : Shared} {H : Hp} {scope : Scope} {cenv : PySem.Env} {fp : List Addr} : Plain (X.blk s H scope cenv fp) := ⟨h.seer, h.tree, h.top, h.dep⟩
abbrev rLenK (K : PySem.W.Frag) : List V → Hp → VK → Prop := fun xs H Q => ∃ p ys, xs = [V.ref p] ∧ (SqL K H p ys ∨ SqT K H p ys) ∧ Q (.int ys.length) H
abbrev rLstK (K : PySem.W.Frag) : List V → Hp → VK → Prop := fun xs H Q => ∃ p ys, xs = [V.ref p] ∧ (SqL K H p ys ∨ SqT K H p ys) ∧ ∀ l, H l = none → Q (.ref l) (upd H l (.lst ys))
abbrev rTupK (K : PySem.W.Frag) : List V → Hp → VK → Prop := fun xs H Q => ∃ p ys, xs = [V.ref p] ∧ ((SqL K H p ys ∧ ∀ l, H l = none → Q (.ref l) (upd H l (.tup ys))) ∨ (SqT K H p ys ∧ Q (.ref p) H))
theorem pi_listK {X : Cx} {K : PySem.W.Frag} {tg l : Expr} {tl : TE} (h : X.K = K) (hl : PE X l tl) : PI X tg l (iList K tl) := h ▸ pi_list hl
theorem pi_tupK {X : Cx} {K : PySem.W.Frag} {tg l : Expr} {tl : TE} (h : X.K = K) (hl : PE X l tl) : PI X tg l (iTup K tl) := h ▸ pi_tup hl
theorem pe_calK {X : Cx} {P : Program} {wo : World} {K : PySem.W.Frag} {mg : Str → Option Value} {base : Heap} {k : Nat} {x : Str} {ps : List Str} {F : FS} {p pos : Pos} {e : Expr} {es : List Expr} {t : TA} (C : Cal P wo K mg base k x ps F) (h1 : X.prog = P) (h2 : X.w = wo) (h3 : X.K = K) (h4 : X.mg = mg) (h5 : X.base = base)
    (hr : Room k X.A) (hg : Gl X x) (ha : PA X (e :: es) t) (hdb : (x == ("__debug__" : Str)) = false := by decide) (he : starEach (e :: es) X.env = (false, eval e X.env) :: starEach es X.env := by rfl) (hpl : (backTo pos (starEach es X.env)).any (·.1) = false := by rfl) :
    PE X (.Call (.Name x p) (e :: es) [] pos) (tCall (spOf K F) [] E0 t) := by
  subst h1; subst h2; subst h3; subst h4; subst h5
  exact pe_cal C hr hg ha hdb he hpl
/-- an empty list as data -/
theorem xd_lstE (q : Q (.lst []) w) : XD K (tLst tNil) ρ w Q := xd_lstF (ad_nil ⟨Nat.zero_le _, q⟩)
end
end DL
set_option Elab.async false
set_option linter.all false
namespace Mat
open PS (dg)
theorem len_le {l : List Int} {m : Nat} (h : Tr l) (e : ∀ k, m ≤ k → T l k = 0) : l.length ≤ m := by
  by_cases h0 : 0 < l.length
  · exact Nat.not_lt.mp fun hl => h h0 (e _ (by omega))
  · omega
theorem map_T {l : List Int} {c : Int} : T (l.map fun x => x * c) = PS.cst c * T l := PS.ps_ext fun n => by
  rw [PS.coe_cst_mul, T_at, map_at (f := fun x => x * c) (Int.zero_mul c)]
  show l.getD n 0 * c = c * l.getD n 0
  exact Int.mul_comm _ _
theorem front_at {b : List Int} {s : Nat} (k : Nat) : ((tab s fun _ => 0) ++ b).getD k 0 = if s ≤ k then b.getD (k - s) 0 else 0 := by
  rw [List.getD_eq_getElem?_getD]
  by_cases h : s ≤ k
  · rw [if_pos h, List.getElem?_append_right (by rw [tab_length]; exact h), tab_length, List.getD_eq_getElem?_getD]
  · rw [if_neg h, List.getElem?_append_left (by rw [tab_length]; omega)]
    have := tab_at (n := s) (f := fun _ => 0) k
    rw [List.getD_eq_getElem?_getD] at this
    rw [this]
    split <;> rfl
theorem front_T {b : List Int} {s : Nat} : T ((tab s fun _ => 0) ++ b) = sh s (T b) := PS.ps_ext fun n => front_at n
/-- one step of a division without fractions -/
def pst (rest b : List Int) : List Int := subP (rest.map fun x => x * b.getD (b.length - 1) 0) (((tab (rest.length - b.length) fun _ => 0) ++ b).map fun x => x * rest.getD (rest.length - 1) 0)
theorem pst_T {rest b : List Int} : T (pst rest b) = PS.cst (b.getD (b.length - 1) 0) * T rest - PS.cst (rest.getD (rest.length - 1) 0) * sh (rest.length - b.length) 1 * T b := by
  unfold pst
  rw [subP_T, map_T, map_T, front_T, ← sh_one_mul (g := T b)]
  grind
theorem pst_Tr {rest b : List Int} : Tr (pst rest b) := subP_Tr
theorem pst_at {rest b : List Int} (k : Nat) : (pst rest b).getD k 0 = b.getD (b.length - 1) 0 * rest.getD k 0 - rest.getD (rest.length - 1) 0 * (if rest.length - b.length ≤ k then b.getD (k - (rest.length - b.length)) 0 else 0) := by
  have h := congrFun (pst_T (rest := rest) (b := b)) k
  have e : PS.cst (rest.getD (rest.length - 1) 0) * sh (rest.length - b.length) 1 * T b = PS.cst (rest.getD (rest.length - 1) 0) * sh (rest.length - b.length) (T b) := by
    rw [← sh_one_mul (g := T b)]; grind
  rw [e, PS.coe_sub, PS.coe_cst_mul, PS.coe_cst_mul] at h
  exact h
theorem pst_len {rest b : List Int} (h0 : 0 < b.length) (h : b.length ≤ rest.length) : (pst rest b).length < rest.length := by
  have : (pst rest b).length ≤ rest.length - 1 := len_le pst_Tr fun k hk => by
    rw [T_at, pst_at, if_pos (by omega)]
    by_cases e : k = rest.length - 1
    · subst e
      rw [show rest.length - 1 - (rest.length - b.length) = b.length - 1 by omega, Int.mul_comm]
      omega
    · rw [getD_over (l := rest) (n := k) (by omega), getD_over (l := b) (n := k - (rest.length - b.length)) (by omega), Int.mul_zero, Int.mul_zero]
      rfl
  omega
theorem W_ex {a : VL Int} {k q : Nat} (h : k ≤ q) : W (ex a k q) k = W a k := by
  funext t
  unfold W
  by_cases ht : t < k
  · rw [if_pos ht, if_pos ht]
    show a (xc k q t) = a t
    unfold xc
    rw [if_neg (by omega), if_neg (by omega)]
  · rw [if_neg ht, if_neg ht]
theorem rr_ex {n : Nat} {a : VL Int} {k q : Nat} (h : k ≤ q) (j i : Nat) : rr n (ex a k q) k j i = rr n a k (xc k q j) i := by
  unfold rr
  rw [W_ex h]
  rfl
theorem dd_ex {n : Nat} {a : VL Int} {k q : Nat} (h : k ≤ q) : dd n (ex a k q) k = dd n a k := by
  unfold dd
  rw [W_ex h]
theorem D_ex {n : Nat} {a : VL Int} {k q : Nat} (hk : k < n) (hq : q < n) (h : k ≠ q) : D n (ex a k q) = - D n a := by
  rw [ex_st h]
  exact D_exch hk hq h
/-- the entries of a list of rows -/
def ent (rows : List (List Int)) : VL Int := fun p c => (rows.getD p []).getD c 0
theorem three_pow : ∀ d : Nat, 1 ≤ d → d + 2 ≤ 3 ^ d
  | 0, h => by omega
  | 1, _ => by decide
  | d + 2, _ => by
    have := three_pow (d + 1) (by omega)
    rw [Nat.pow_succ]
    omega
end Mat
set_option Elab.async false
set_option linter.all false
namespace Mat
open PS (dg)
/-! ### exact quotients -/
theorem take_T {L : List Int} {m : Nat} (h : m < L.length) : T (L.take (m + 1)) = T (L.take m) + PS.cst (L.getD m 0) * sh m 1 := PS.ps_ext fun n => by
  rw [PS.coe_add, PS.coe_cst_mul, sh_one_at, T_at, T_at, take_at, take_at]
  by_cases e : n = m
  · subst e; rw [if_pos (by omega), if_neg (by omega), if_pos rfl]; omega
  · rw [if_neg e]
    by_cases e2 : n < m
    · rw [if_pos (by omega), if_pos e2]; omega
    · rw [if_neg (by omega), if_neg e2]; omega
/-- what is left of L * o when the last t numbers of L are taken off -/
def RT (L o : List Int) (t : Nat) : PS := T (L.take (L.length - t)) * T o
theorem RT_zero {L o : List Int} : RT L o 0 = T (mulP L o) := by
  unfold RT
  rw [Nat.sub_zero, List.take_length, mulP_T]
theorem RT_all {L o : List Int} {i : Nat} : RT L o L.length i = 0 := by
  unfold RT
  rw [Nat.sub_self, List.take_zero, T_nil, show (0 : PS) * T o = 0 by grind, PS.coe_zero]
theorem RT_step {L o : List Int} {t : Nat} (h : t < L.length) (i : Nat) : RT L o (t + 1) i = RT L o t i - L.getD (L.length - 1 - t) 0 * (if L.length - 1 - t ≤ i then o.getD (i - (L.length - 1 - t)) 0 else 0) := by
  unfold RT
  have e : L.length - t = (L.length - 1 - t) + 1 := by omega
  rw [e, take_T (by omega), show L.length - (t + 1) = L.length - 1 - t by omega]
  have e2 : (T (L.take (L.length - 1 - t)) + PS.cst (L.getD (L.length - 1 - t) 0) * sh (L.length - 1 - t) 1) * T o = T (L.take (L.length - 1 - t)) * T o + PS.cst (L.getD (L.length - 1 - t) 0) * sh (L.length - 1 - t) (T o) := by
    rw [← sh_one_mul (g := T o)]; grind
  rw [e2, PS.coe_add, PS.coe_cst_mul]
  show _ = _ + _ * (if L.length - 1 - t ≤ i then o.getD (i - (L.length - 1 - t)) 0 else 0) - _
  omega
theorem RT_top {L o : List Int} {t : Nat} (h : t < L.length) (ho : 0 < o.length) : RT L o t (L.length - 1 - t + (o.length - 1)) = L.getD (L.length - 1 - t) 0 * o.getD (o.length - 1) 0 := by
  unfold RT
  rw [PS.top (T_dg (m := L.length - 1 - t) (by rw [List.length_take]; omega)) (T_dg (m := o.length - 1) (by omega)), T_at, T_at, take_at, if_pos (by omega)]
theorem mulP_len_eq {L o : List Int} (h : 0 < L.length) (ho : 0 < o.length) : (mulP L o).length = L.length + o.length - 1 := mulP_length (by omega) (by omega)
/-- one step where the dividend is trimmed -/
theorem quo_next {L o : List Int} {u : Nat} {f : Int} (hu : u < L.length) (ho : Tr o) (hf : f = L.getD u 0) : subP (mulP (L.take (u + 1)) o) ((tab u fun _ => 0) ++ o.map fun x => x * f) = mulP (trimP (L.take u)) o := by
  refine T_inj subP_Tr (mulP_Tr trimP_Tr ho) ?_
  rw [subP_T, mulP_T, mulP_T, trimP_T, front_T, map_T, take_T hu, hf, ← sh_one_mul (g := PS.cst _ * T o)]
  grind
theorem trim_take {L : List Int} {u : Nat} (h : u ≤ L.length) : ∃ v, v ≤ u ∧ trimP (L.take u) = L.take v ∧ ∀ i, v ≤ i → i < u → L.getD i 0 = 0 := by
  refine ⟨tl (L.take u) (L.take u).length, ?_, ?_, fun i h1 h2 => ?_⟩
  · have := tl_le (L.take u) (L.take u).length
    rw [List.length_take] at this ⊢
    omega
  · unfold trimP
    rw [List.take_take]
    congr 1
    have := tl_le (L.take u) (L.take u).length
    rw [List.length_take] at this ⊢
    omega
  · have := tl_over (L.take u) _ i h1 (by rw [List.length_take]; omega)
    rw [take_at, if_pos h2] at this
    exact this
/-- the rows of a resultant, laid out -/
def pad (m k : Nat) (l : List Int) : List Int := (tab k fun _ => 0) ++ l ++ tab (m - k - l.length) fun _ => 0
theorem pad_len {m k : Nat} {l : List Int} (h : k + l.length ≤ m) : (pad m k l).length = m := by
  unfold pad
  rw [List.length_append, List.length_append, tab_length, tab_length]
  omega
theorem pad_get {m k : Nat} {l : List Int} (i : Nat) : (pad m k l).getD i 0 = sh k (T l) i := by
  unfold pad
  have e1 : (((tab k fun _ => 0) ++ l) ++ tab (m - k - l.length) fun _ => 0).getD i 0 = ((tab k fun _ => 0) ++ l).getD i 0 := by
    rw [List.getD_eq_getElem?_getD, List.getD_eq_getElem?_getD]
    by_cases h : i < ((tab k fun _ => 0) ++ l).length
    · rw [List.getElem?_append_left h]
    · rw [List.getElem?_append_right (by omega), List.getElem?_eq_none (l := (tab k fun _ => 0) ++ l) (by omega)]
      have := tab_at (n := m - k - l.length) (f := fun _ => 0) (i - ((tab k fun _ => 0) ++ l).length)
      rw [List.getD_eq_getElem?_getD] at this
      rw [this]
      split <;> rfl
  rw [e1, front_at]
  rfl
def tabM (n : Nat) (f : Nat → List Int) : List (List Int) := (List.range n).map f
theorem tabM_length {n : Nat} {f : Nat → List Int} : (tabM n f).length = n := by unfold tabM; rw [List.length_map, List.length_range]
theorem tabM_at {n : Nat} {f : Nat → List Int} {k : Nat} (h : k < n) : (tabM n f).getD k [] = f k := by
  rw [List.getD_eq_getElem?_getD, List.getElem?_eq_getElem (by rw [tabM_length]; exact h)]
  simp [tabM]
theorem tabM_snoc {n : Nat} {f : Nat → List Int} : tabM n f ++ [f n] = tabM (n + 1) f := by
  unfold tabM
  rw [List.range_succ, List.map_append]
  rfl
/-- the rows of the resultant -/
def sylL (l r : List Int) : List (List Int) := tabM (r.length - 1) (fun k => pad (l.length + r.length - 2) k l) ++ tabM (l.length - 1) fun k => pad (l.length + r.length - 2) k r
theorem sylL_length {l r : List Int} (hl : 0 < l.length) (hr : 0 < r.length) : (sylL l r).length = l.length + r.length - 2 := by
  unfold sylL
  rw [List.length_append, tabM_length, tabM_length]
  omega
theorem sylL_at {l r : List Int} (hl : 0 < l.length) (hr : 0 < r.length) {p : Nat} (hp : p < l.length + r.length - 2) : (sylL l r).getD p [] = if p < r.length - 1 then pad (l.length + r.length - 2) p l else pad (l.length + r.length - 2) (p - (r.length - 1)) r := by
  unfold sylL
  rw [List.getD_eq_getElem?_getD]
  by_cases h : p < r.length - 1
  · rw [if_pos h, List.getElem?_append_left (by rw [tabM_length]; exact h), ← List.getD_eq_getElem?_getD, tabM_at h]
  · rw [if_neg h, List.getElem?_append_right (by rw [tabM_length]; omega), tabM_length, ← List.getD_eq_getElem?_getD, tabM_at (by omega)]
theorem sylL_ent {l r : List Int} (hl : 0 < l.length) (hr : 0 < r.length) {p : Nat} (hp : p < l.length + r.length - 2) (c : Nat) : ent (sylL l r) p c = syl l r p c := by
  unfold ent syl
  rw [sylL_at hl hr hp]
  split
  · rw [pad_get]
  · rw [pad_get]
theorem sylL_row {l r : List Int} (hl : 0 < l.length) (hr : 0 < r.length) {p : Nat} (hp : p < l.length + r.length - 2) : ((sylL l r).getD p []).length = l.length + r.length - 2 := by
  rw [sylL_at hl hr hp]
  split
  · exact pad_len (by omega)
  · exact pad_len (by omega)
end Mat
set_option Elab.async false
set_option linter.all false
set_option maxRecDepth 100000
set_option maxHeartbeats 1000000
/-! DL7: matrices whose rows are mutable lists. -/
namespace DL
open PySem PySem.Spec PyProof.Rows L2
open Mat (tab tab_length tab_at)
abbrev dO (ps : List Addr) : Dat := .lst (ps.map .obj)
/-- the lists at ps are the rows of a -/
structure At (w : Wd) (ps : List Addr) (n : Nat) (a : Nat → Nat → Int) : Prop where
  len : ps.length = n
  row : ∀ i p, ps[i]? = some p → ∃ r : List Int, w p = some (r.map .int) ∧ r.length = n ∧ ∀ j, j < n → r.getD j 0 = a i j
  nd : ps.Nodup
theorem At.sub {w w' : Wd} {ps : List Addr} {n : Nat} {a : Nat → Nat → Int} (h : At w ps n a) (s : DL.sub w w') : At w' ps n a :=
  ⟨h.len, fun i p e => let ⟨r, h1, h2⟩ := h.row i p e; ⟨r, s p _ h1, h2⟩, h.nd⟩
theorem At.put {w : Wd} {ps : List Addr} {n : Nat} {a : Nat → Nat → Int} {q : Addr} {xs : List Dat} (h : At w ps n a) (hq : q ∉ ps) : At (w.put q xs) ps n a :=
  ⟨h.len, fun i p e => let ⟨r, h1, h2⟩ := h.row i p e; ⟨r, by rw [Wd.put_ne]; exact h1; rintro rfl; exact hq (List.mem_of_getElem? e), h2⟩, h.nd⟩
theorem At.congr {w : Wd} {ps : List Addr} {n : Nat} {a b : Nat → Nat → Int} (h : At w ps n a) (e : ∀ i j, i < n → j < n → a i j = b i j) : At w ps n b :=
  ⟨h.len, fun i p ep => let ⟨r, h1, h2, h3⟩ := h.row i p ep; ⟨r, h1, h2, fun j hj => by
    rw [h3 j hj, e i j _ hj]
    have := (List.getElem?_eq_some_iff.mp ep).1
    rw [h.len] at this
    exact this⟩, h.nd⟩
/-- one number changes -/
theorem At.set {w : Wd} {ps : List Addr} {n : Nat} {a : Nat → Nat → Int} {s t : Nat} {p : Addr} {r : List Int} {v : Int} (h : At w ps n a) (hp : ps[s]? = some p) (hr : w p = some (r.map .int)) (ht : t < n) :
    At (w.put p ((r.set t v).map .int)) ps n fun i j => if i = s ∧ j = t then v else a i j := by
  refine ⟨h.len, fun i q e => ?_, h.nd⟩
  obtain ⟨r0, h1, h2, h3⟩ := h.row s p hp
  have er : r = r0 := by
    rw [hr] at h1
    have h1 := Option.some.inj h1
    exact List.map_inj_right (fun x y h => Dat.int.inj h) |>.mp h1
  subst er
  by_cases he : i = s
  · subst he
    rw [hp] at e
    cases e
    refine ⟨r.set t v, Wd.put_same, by rw [List.length_set]; exact h2, fun j hj => ?_⟩
    rw [getD_set j (by omega)]
    by_cases e2 : j = t
    · rw [if_pos e2, if_pos ⟨rfl, e2⟩]
    · rw [if_neg e2, if_neg (by omega)]
      exact h3 j hj
  · obtain ⟨r1, k1, k2, k3⟩ := h.row i q e
    refine ⟨r1, ?_, k2, fun j hj => by rw [if_neg (by omega)]; exact k3 j hj⟩
    rw [Wd.put_ne]
    · exact k1
    · rintro rfl
      have i1 := (List.getElem?_eq_some_iff.mp e)
      have i2 := (List.getElem?_eq_some_iff.mp hp)
      obtain ⟨l1, g1⟩ := i1
      obtain ⟨l2, g2⟩ := i2
      exact he ((List.getElem_inj h.nd).mp (g1.trans g2.symm))
section
variable {K : PySem.W.Frag} {ρ : Env} {w : Wd} {Q : Dat → Wd → Prop} {x y : Dat} {Po : Post} {to ti te ta tb : TE} {g : TG} {vs : List Nat} {t : TS}
theorem od_ixO {ps : List Addr} {k : Nat} {p : Addr} (h : ps[k]? = some p) (q : Q (.obj p) w) : OD K (rIx K) (dO ps) (.int (k : Nat)) w Q := by
  refine od_ix (.lst _) ?_ q
  have hk := (List.getElem?_eq_some_iff.mp h).1
  unfold atI
  rw [ixN_ok (by omega) (by rw [List.length_map]; omega), Int.toNat_natCast]
  show (ps.map Dat.obj)[k]? = _
  rw [List.getElem?_map, h]
  rfl
abbrev tI (r : List Int) : Dat := .tup (r.map .int)
abbrev tM (rows : List (List Int)) : Dat := .tup (rows.map tI)
theorem od_ixT {rows : List (List Int)} {k : Nat} (h : k < rows.length) (q : Q (tI (rows.getD k [])) w) : OD K (rIx K) (tM rows) (.int (k : Nat)) w Q := by
  refine od_ix (.tup _) ?_ q
  unfold atI
  rw [ixN_ok (by omega) (by rw [List.length_map]; omega), Int.toNat_natCast]
  show (rows.map tI)[k]? = _
  rw [List.getElem?_map, List.getD_eq_getElem?_getD, List.getElem?_eq_getElem h]
  rfl
/-- the fresh rows of a comprehension -/
structure Mx (w0 w' : Wd) (p : Addr) (qs : List Addr) (i n : Nat) (a : Nat → Nat → Int) : Prop where
  sb : DL.sub w0 w'
  at_ : w' p = some (qs.map .obj)
  pn : w0 p = none
  np : p ∉ qs
  len : qs.length = i
  row : ∀ k q, qs[k]? = some q → ∃ r : List Int, w' q = some (r.map .int) ∧ r.length = n ∧ ∀ j, j < n → r.getD j 0 = a k j
  nw : ∀ q ∈ qs, w0 q = none
  nd : qs.Nodup
theorem Mx.start {w0 : Wd} {p : Addr} (h : w0 p = none) {n : Nat} {a : Nat → Nat → Int} : Mx w0 (w0.put p []) p [] 0 n a :=
  ⟨sub_put h, Wd.put_same, h, by simp, rfl, fun k q e => by simp at e, fun q hq => by simp at hq, List.nodup_nil⟩
theorem Mx.next {w0 w' : Wd} {p : Addr} {qs : List Addr} {i n : Nat} {a : Nat → Nat → Int} (h : Mx w0 w' p qs i n a) {q : Addr} {r : List Int} (hq : w' q = none) (hl : r.length = n) (hr : ∀ j, j < n → r.getD j 0 = a i j) :
    ∃ acc, (w'.put q (r.map .int)) p = some acc ∧ acc = qs.map Dat.obj ∧ Mx w0 ((w'.put q (r.map .int)).put p (acc ++ [.obj q])) p (qs ++ [q]) (i + 1) n a := by
  have pq : p ≠ q := by
    rintro rfl
    rw [h.at_] at hq; cases hq
  have qn : ∀ z ∈ qs, z ≠ q := fun z hz => by
    rintro rfl
    obtain ⟨k, hk, e⟩ := List.getElem_of_mem hz
    obtain ⟨r', h1, _⟩ := h.row k z (by rw [List.getElem?_eq_getElem hk, e])
    rw [h1] at hq; cases hq
  refine ⟨_, by rw [Wd.put_ne pq]; exact h.at_, rfl, ?_⟩
  refine ⟨?_, ?_, h.pn, ?_, by rw [List.length_append, h.len]; rfl, fun k z e => ?_, fun z hz => ?_, ?_⟩
  · intro z xs e
    have zp : z ≠ p := by
      rintro rfl
      rw [h.pn] at e; cases e
    have e2 := h.sb z xs e
    have zq : z ≠ q := by
      rintro rfl
      rw [hq] at e2; cases e2
    rw [Wd.put_ne zp, Wd.put_ne zq]
    exact e2
  · rw [Wd.put_same, List.map_append]; rfl
  · rw [List.mem_append]
    rintro (z | z)
    · exact h.np z
    · simp at z; exact pq z
  · by_cases hk : k < qs.length
    · rw [List.getElem?_append_left hk] at e
      obtain ⟨r', h1, h2⟩ := h.row k z e
      have hz := List.mem_of_getElem? e
      refine ⟨r', ?_, h2⟩
      rw [Wd.put_ne (by rintro rfl; exact h.np hz), Wd.put_ne (qn z hz)]
      exact h1
    · have hk2 : k = qs.length := by
        have := (List.getElem?_eq_some_iff.mp e).1
        rw [List.length_append] at this
        simp at this
        omega
      subst hk2
      simp at e
      subst e
      refine ⟨r, by rw [Wd.put_ne (Ne.symm pq), Wd.put_same], hl, fun j hj => by rw [hr j hj, h.len]⟩
  · rw [List.mem_append] at hz
    rcases hz with hz | hz
    · exact h.nw z hz
    · simp at hz
      subst hz
      cases e : w0 z with
      | none => rfl
      | some xs =>
        have := h.sb z xs e
        rw [hq] at this; cases this
  · rw [List.nodup_append]
    refine ⟨h.nd, by simp, fun z hz u hu => ?_⟩
    simp at hu
    subst hu
    exact qn z hz
theorem Mx.done {w0 w' : Wd} {p : Addr} {qs : List Addr} {n : Nat} {a : Nat → Nat → Int} (h : Mx w0 w' p qs n n a) : DL.sub w0 (w'.del p) ∧ At (w'.del p) qs n a ∧ ∀ q ∈ qs, w0 q = none := by
  refine ⟨fun z xs e => ?_, ⟨h.len, fun i q e => ?_, h.nd⟩, h.nw⟩
  · have zp : z ≠ p := by
      rintro rfl
      rw [h.pn] at e; cases e
    unfold Wd.del
    rw [if_neg zp]
    exact h.sb z xs e
  · obtain ⟨r, h1, h2⟩ := h.row i q e
    refine ⟨r, ?_, h2⟩
    have : q ≠ p := by
      rintro rfl
      exact h.np (List.mem_of_getElem? e)
    unfold Wd.del
    rw [if_neg this]
    exact h1
/-- [[..] for x in xs], xs a tuple of n things; the rows are fresh lists -/
theorem xd_lcTM {tl : TE} (gw : GW g vs) (h : XD K tl ρ w fun d w0 => ∃ xs, d = .tup xs ∧ xs.length ≤ 1000 ∧ ∃ a : Nat → Nat → Int,
    (∀ (i : Nat) (x : Dat) (w' : Wd), xs[i]? = some x → sub w0 w' → GD K g x (wipeD ρ vs) w' fun ρ2 w2 => w2 = w' ∧ XD K te ρ2 w' fun y w4 => ∃ (q : Addr) (r : List Int), y = .obj q ∧ w' q = none ∧ w4 = w'.put q (r.map .int) ∧ r.length = xs.length ∧ ∀ j, j < xs.length → r.getD j 0 = a i j) ∧
    ∀ w' qs, sub w0 w' → At w' qs xs.length a → (∀ q ∈ qs, w0 q = none) → Q (dO qs) w') : XD K (tLc (iTup K tl) g tYes te vs) ρ w Q := by
  refine xd_frz (xd_lcT gw (xd_mono h fun d w0 hq => ?_))
  obtain ⟨xs, rfl, hl, a, hs, fin⟩ := hq
  refine ⟨xs, rfl, fun p hp => ⟨fun i w' => ∃ qs, Mx w0 w' p qs i xs.length a, ⟨[], Mx.start hp⟩, fun i x w' hx ⟨qs, m⟩ => ?_, fun w' ⟨qs, m⟩ => ⟨p, _, rfl, m.at_, ?_⟩⟩⟩
  · have hi : i < xs.length := (List.getElem?_eq_some_iff.mp hx).1
    intro σ H v Qs ae b r k
    refine hs i x w' hx m.sb σ H v Qs ae b r fun ρ' w2 σ' H' e c er q => k ρ' w2 σ' H' e c er ?_
    obtain ⟨rfl, hx2⟩ := q
    refine td_yes ⟨fun _ => xd_mono hx2 fun y w4 hy => ?_, fun z => by cases z⟩
    obtain ⟨q, r, rfl, hq, rfl, hrl, hr⟩ := hy
    obtain ⟨acc, h1, h2, m2⟩ := m.next hq hrl hr
    refine ⟨acc, h1, ?_, _, m2⟩
    rw [h2, List.length_map, m.len]
    exact Nat.lt_of_lt_of_le (Nat.lt_of_lt_of_le hi hl) (by decide)
  · obtain ⟨h1, h2, h3⟩ := m.done
    exact fin _ qs h1 h2 h3
/-- .. xs a list that is data -/
theorem xd_lcLM {tl : TE} (gw : GW g vs) (h : XD K tl ρ w fun d w0 => ∃ xs, Fz d xs ∧ xs.length ≤ 1000 ∧ ∃ a : Nat → Nat → Int,
    (∀ (i : Nat) (x : Dat) (w' : Wd), xs[i]? = some x → sub w0 w' → GD K g x (wipeD ρ vs) w' fun ρ2 w2 => w2 = w' ∧ XD K te ρ2 w' fun y w4 => ∃ (q : Addr) (r : List Int), y = .obj q ∧ w' q = none ∧ w4 = w'.put q (r.map .int) ∧ r.length = xs.length ∧ ∀ j, j < xs.length → r.getD j 0 = a i j) ∧
    ∀ w' qs, sub w0 w' → At w' qs xs.length a → (∀ q ∈ qs, w0 q = none) → Q (dO qs) w') : XD K (tLc (iList K tl) g tYes te vs) ρ w Q := by
  refine xd_frz (xd_lcL gw (xd_mono h fun d w0 hq => ?_))
  obtain ⟨xs, hz, hl, a, hs, fin⟩ := hq
  refine ⟨xs, hz, fun p hp => ⟨fun i w' => ∃ qs, Mx w0 w' p qs i xs.length a, ⟨[], Mx.start hp⟩, fun i x w' hx ⟨qs, m⟩ => ?_, fun w' ⟨qs, m⟩ => ⟨p, _, rfl, m.at_, ?_⟩⟩⟩
  · have hi : i < xs.length := (List.getElem?_eq_some_iff.mp hx).1
    intro σ H v Qs ae b r k
    refine hs i x w' hx m.sb σ H v Qs ae b r fun ρ' w2 σ' H' e c er q => k ρ' w2 σ' H' e c er ?_
    obtain ⟨rfl, hx2⟩ := q
    refine td_yes ⟨fun _ => xd_mono hx2 fun y w4 hy => ?_, fun z => by cases z⟩
    obtain ⟨q, r, rfl, hq, rfl, hrl, hr⟩ := hy
    obtain ⟨acc, h1, h2, m2⟩ := m.next hq hrl hr
    refine ⟨acc, h1, ?_, _, m2⟩
    rw [h2, List.length_map, m.len]
    exact Nat.lt_of_lt_of_le (Nat.lt_of_lt_of_le hi hl) (by decide)
  · obtain ⟨h1, h2, h3⟩ := m.done
    exact fin _ qs h1 h2 h3
/-- [g(x) for x in xs] of ints, xs a list of anything -/
theorem xd_lcLX {tl : TE} (gw : GW g vs) (h : XD K tl ρ w fun d w0 => ∃ xs, Fz d xs ∧ xs.length ≤ 1000000 ∧ ∃ f : Nat → Int,
    (∀ (i : Nat) (x : Dat) (w' : Wd), xs[i]? = some x → sub w0 w' → GD K g x (wipeD ρ vs) w' fun ρ2 w2 => w2 = w' ∧ XD K te ρ2 w' fun y w3 => w3 = w' ∧ y = .int (f i)) ∧
    ∀ p, w0 p = none → Q (.obj p) (w0.put p ((tab xs.length f).map .int))) : XD K (tLc (iList K tl) g tYes te vs) ρ w Q :=
  xd_lcLP gw (xd_mono h fun d w0 ⟨xs, hz, h1, f, hs, q⟩ => ⟨xs, hz, h1, fun i => .int (f i), hs, fun p hp => by rw [tab_dat]; exact q p hp⟩)
theorem xd_lcTX {tl : TE} (gw : GW g vs) (h : XD K tl ρ w fun d w0 => ∃ xs, d = .tup xs ∧ xs.length ≤ 1000000 ∧ ∃ f : Nat → Int,
    (∀ (i : Nat) (x : Dat) (w' : Wd), xs[i]? = some x → sub w0 w' → GD K g x (wipeD ρ vs) w' fun ρ2 w2 => w2 = w' ∧ XD K te ρ2 w' fun y w3 => w3 = w' ∧ y = .int (f i)) ∧
    ∀ p, w0 p = none → Q (.obj p) (w0.put p ((tab xs.length f).map .int))) : XD K (tLc (iTup K tl) g tYes te vs) ρ w Q :=
  xd_lcTP gw (xd_mono h fun d w0 ⟨xs, hz, h1, f, hs, q⟩ => ⟨xs, hz, h1, fun i => .int (f i), hs, fun p hp => by rw [tab_dat]; exact q p hp⟩)
theorem sub_put2 {w w' : Wd} {p : Addr} {xs : List Dat} (s : DL.sub w w') (h : w p = none) : DL.sub w (w'.put p xs) := fun a ys e => by
  rw [Wd.put_ne]
  · exact s a ys e
  · rintro rfl
    rw [h] at e; cases e
theorem cd_lenT {rows : List (List Int)} (q : Q (.int rows.length) w) : CD K (rLenK K) [tM rows] w Q := cd_len (.tup _) (by rw [List.length_map]; exact q)
theorem cd_lenTI {r : List Int} (q : Q (.int r.length) w) : CD K (rLenK K) [tI r] w Q := cd_len (.tup _) (by rw [List.length_map]; exact q)
theorem cd_lenO {ps : List Addr} (q : Q (.int ps.length) w) : CD K (rLenK K) [dO ps] w Q := cd_len (.lst _) (by rw [List.length_map]; exact q)
/-- list(range(n)) as data -/
theorem xd_listRgI (h : XD K te ρ w fun d w1 => ∃ n : Nat, d = .int n ∧ n ≤ 1000000 ∧ Q (dI (tab n fun i => i)) w1) : XD K (tLstRg (tRg1 te)) ρ w Q := by
  refine xd_frz (xd_listRg1 (xd_mono h fun d w1 hq => ?_))
  obtain ⟨n, rfl, hn, q⟩ := hq
  refine ⟨n, rfl, ?_, frz_new ?_⟩
  · unfold RgOk
    have : sizeLine = 16777216 := by decide
    omega
  · rw [Int.toNat_natCast, tab_dat]
    exact q
theorem sum_tab {n : Nat} {f : Nat → Int} : (tab n f).sum = Mat.sm f n := by
  induction n with
  | zero => rfl
  | succ n ih =>
    unfold tab at *
    rw [List.range_succ, List.map_append, List.sum_append, ih]
    show _ + (f n + 0) = _ + f n
    rw [Int.add_zero]
theorem cd_sumT {n : Nat} {f : Nat → Int} (s : SqD w x ((tab n f).map .int)) (q : Q (.int (Mat.sm f n)) w) : CD K (rSum K) [x] w Q := cd_sum s (by rw [sum_tab]; exact q)
end
end DL
set_option Elab.async false
set_option linter.all false
set_option maxRecDepth 100000
set_option maxHeartbeats 1000000
/-! DL8: comprehensions with a condition. -/
namespace DL
open PySem PySem.Spec PyProof.Rows L2
open Mat (tab tab_length tab_at sm)
section
variable {K : PySem.W.Frag} {ρ : Env} {w : Wd} {Q : Dat → Wd → Prop} {x y : Dat} {Po : Post} {to ti te ta tb : TE} {g : TG} {vs : List Nat} {t : TS} {tt : TT}
theorem xd_lcR1C {ar : TA} (gw : GW g vs) (h : AD K ar ρ w fun ds w0 => ∃ (n : Nat) (c : Nat → Bool) (f : Nat → Int), ds = [.int n] ∧ n ≤ 1000000 ∧
    (∀ (i : Nat) (w' : Wd), i < n → sub w0 w' → GD K g (.int i) (wipeD ρ vs) w' fun ρ2 w2 => w2 = w' ∧ TD K tt ρ2 w' fun b w3 => w3 = w' ∧ b = c i ∧ (b = true → XD K te ρ2 w' fun y w4 => w4 = w' ∧ y = .int (f i))) ∧
    ∀ L : List Int, L.sum = sm (fun k => if c k = true then f k else 0) n → Q (dI L) w0) : XD K (tLc (iRng1 ar) g tt te vs) ρ w Q := by
  refine xd_frz (xd_lcR1 gw (ad_mono h fun ds w0 hq => ?_))
  obtain ⟨n, c, f, rfl, hn, hs, fin⟩ := hq
  refine ⟨n, rfl, by omega, by omega, fun p hp => ⟨fun i w' => ∃ L : List Int, w' = w0.put p (L.map .int) ∧ L.length ≤ i ∧ L.sum = sm (fun k => if c k = true then f k else 0) i, ⟨[], rfl, Nat.le_refl _, rfl⟩, fun i w' hi ⟨L, e, hl, hsum⟩ => ?_, fun w' ⟨L, e, hl, hsum⟩ => ?_⟩⟩
  · subst e
    have s : sub w0 (w0.put p (L.map .int)) := sub_put hp
    intro σ H v Qs ae b r k
    refine hs i _ (by omega) s σ H v Qs ae b r fun ρ' w2 σ' H' e cw er q => k ρ' w2 σ' H' e cw er ?_
    obtain ⟨rfl, hx⟩ := q
    refine td_mono hx fun b w3 hb => ?_
    obtain ⟨rfl, rfl, hy⟩ := hb
    refine ⟨fun hb => xd_mono (hy hb) fun y w4 hy2 => ?_, fun hb => ⟨L, rfl, by omega, ?_⟩⟩
    · obtain ⟨rfl, rfl⟩ := hy2
      refine ⟨L.map .int, Wd.put_same, by rw [List.length_map]; exact Nat.lt_of_le_of_lt (Nat.le_trans hl (Nat.le_of_lt (show i < n by omega))) (Nat.lt_of_le_of_lt hn (by decide)), L ++ [f i], ?_, by rw [List.length_append]; simp; omega, ?_⟩
      · rw [Wd.put_put, List.map_append]; rfl
      · rw [List.sum_append, hsum]
        show _ + (f i + 0) = _ + (if c i = true then f i else 0)
        rw [if_pos hb, Int.add_zero]
    · rw [hsum]
      show _ = _ + (if c i = true then f i else 0)
      rw [hb, if_neg Bool.false_ne_true, Int.add_zero]
  · subst e
    rw [Int.toNat_natCast] at hsum
    exact ⟨p, _, rfl, Wd.put_same, by rw [Wd.del_put hp]; exact fin L hsum⟩
theorem xd_lcTC {tl : TE} (gw : GW g vs) (h : XD K tl ρ w fun d w0 => ∃ (r : List Int) (c : Int → Bool), d = tI r ∧ r.length ≤ 1000000 ∧
    (∀ (x : Int) (w' : Wd), x ∈ r → sub w0 w' → GD K g (.int x) (wipeD ρ vs) w' fun ρ2 w2 => w2 = w' ∧ TD K tt ρ2 w' fun b w3 => w3 = w' ∧ b = c x ∧ (b = true → XD K te ρ2 w' fun y w4 => w4 = w' ∧ y = .int x)) ∧
    Q (dI (r.filter c)) w0) : XD K (tLc (iTup K tl) g tt te vs) ρ w Q := by
  refine xd_frz (xd_lcT gw (xd_mono h fun d w0 hq => ?_))
  obtain ⟨r, c, rfl, hn, hs, fin⟩ := hq
  refine ⟨_, rfl, fun p hp => ⟨fun i w' => w' = w0.put p (((r.take i).filter c).map .int), rfl, fun i x w' hx e => ?_, fun w' e => ?_⟩⟩
  · subst e
    have hi : i < r.length := by
      have := (List.getElem?_eq_some_iff.mp hx).1
      rwa [List.length_map] at this
    rw [list_ix hi] at hx
    cases hx
    have et : r.take (i + 1) = r.take i ++ [r.getD i 0] := by
      rw [List.take_succ, List.getElem?_eq_getElem hi, List.getD_eq_getElem?_getD, List.getElem?_eq_getElem hi]
      rfl
    have s : sub w0 (w0.put p (((r.take i).filter c).map .int)) := sub_put hp
    have hm : r.getD i 0 ∈ r := by
      rw [List.getD_eq_getElem?_getD, List.getElem?_eq_getElem hi]
      exact List.getElem_mem _
    intro σ H v Qs ae b rr k
    refine hs (r.getD i 0) _ hm s σ H v Qs ae b rr fun ρ' w2 σ' H' e cw er q => k ρ' w2 σ' H' e cw er ?_
    obtain ⟨rfl, hx⟩ := q
    refine td_mono hx fun b w3 hb => ?_
    obtain ⟨rfl, rfl, hy⟩ := hb
    refine ⟨fun hb => xd_mono (hy hb) fun y w4 hy2 => ?_, fun hb => ?_⟩
    · obtain ⟨rfl, rfl⟩ := hy2
      have hll : ((r.take i).filter c).length ≤ r.length := Nat.le_trans (List.length_filter_le _ _) (by rw [List.length_take]; omega)
      refine ⟨_, Wd.put_same, by rw [List.length_map]; exact Nat.lt_of_le_of_lt hll (Nat.lt_of_le_of_lt hn (by decide)), ?_⟩
      show (w0.put p _).put p _ = w0.put p (((r.take (i + 1)).filter c).map .int)
      rw [Wd.put_put, et, List.filter_append, List.map_append]
      have : List.filter c [r.getD i 0] = [r.getD i 0] := by rw [List.filter_cons, if_pos hb]; rfl
      rw [this]
      rfl
    · show w0.put p _ = w0.put p (((r.take (i + 1)).filter c).map .int)
      rw [et, List.filter_append]
      have : List.filter c [r.getD i 0] = [] := by rw [List.filter_cons, hb]; rfl
      rw [this, List.append_nil]
  · subst e
    rw [List.length_map, List.take_length]
    exact ⟨p, _, rfl, Wd.put_same, by rw [Wd.del_put hp]; exact fin⟩
end
end DL
set_option Elab.async false
set_option linter.all false
set_option maxRecDepth 100000
set_option maxHeartbeats 4000000
namespace K67
open PySem PySem.Spec PyProof.Rows L2 DL
def topS (i : Nat) : Stmt := PySem.Challenge.pw_lettercourt_k67_divisors_and_charpolys.main.body.getD i (.Pass ⟨0, 0, 0, 0⟩)
abbrev s_gcd_of : Stmt := topS 1
abbrev n_gcd_of : List Str := ["one", "other"]
theorem sc_gcd_of : FnScope n_gcd_of ["one", "other"] (defScope s_gcd_of) := ⟨rfl, rfl, rfl, by decide +kernel, rfl, by decide +kernel, by decide +kernel⟩
abbrev s_trim_poly : Stmt := topS 3
abbrev n_trim_poly : List Str := ["row", "size"]
theorem sc_trim_poly : FnScope n_trim_poly ["row"] (defScope s_trim_poly) := ⟨rfl, rfl, rfl, by decide +kernel, rfl, by decide +kernel, by decide +kernel⟩
abbrev s_poly_times : Stmt := topS 4
abbrev n_poly_times : List Str := ["one", "other", "found", "k", "j"]
theorem sc_poly_times : FnScope n_poly_times ["one", "other"] (defScope s_poly_times) := ⟨rfl, rfl, rfl, by decide +kernel, rfl, by decide +kernel, by decide +kernel⟩
abbrev s_poly_minus : Stmt := topS 5
abbrev n_poly_minus : List Str := ["one", "other", "size", "first", "second", "k"]
theorem sc_poly_minus : FnScope n_poly_minus ["one", "other"] (defScope s_poly_minus) := ⟨rfl, rfl, rfl, by decide +kernel, rfl, by decide +kernel, by decide +kernel⟩
abbrev s_primitive_part : Stmt := topS 6
abbrev n_primitive_part : List Str := ["row", "common", "number"]
theorem sc_primitive_part : FnScope n_primitive_part ["row"] (defScope s_primitive_part) := ⟨rfl, rfl, rfl, by decide +kernel, rfl, by decide +kernel, by decide +kernel⟩
abbrev s_pseudo_remainder : Stmt := topS 7
abbrev n_pseudo_remainder : List Str := ["one", "other", "rest", "shift", "first", "second", "k", "number"]
theorem sc_pseudo_remainder : FnScope n_pseudo_remainder ["one", "other"] (defScope s_pseudo_remainder) := ⟨rfl, rfl, rfl, by decide +kernel, rfl, by decide +kernel, by decide +kernel⟩
abbrev s_poly_gcd : Stmt := topS 8
abbrev n_poly_gcd : List Str := ["one", "other", "first", "second"]
theorem sc_poly_gcd : FnScope n_poly_gcd ["one", "other"] (defScope s_poly_gcd) := ⟨rfl, rfl, rfl, by decide +kernel, rfl, by decide +kernel, by decide +kernel⟩
abbrev s_poly_quotient : Stmt := topS 9
abbrev n_poly_quotient : List Str := ["one", "other", "rest", "found", "place", "factor", "k", "number"]
theorem sc_poly_quotient : FnScope n_poly_quotient ["one", "other"] (defScope s_poly_quotient) := ⟨rfl, rfl, rfl, by decide +kernel, rfl, by decide +kernel, by decide +kernel⟩
abbrev s_matrix_times : Stmt := topS 10
abbrev n_matrix_times : List Str := ["one", "other", "size", "columns", "k", "row", "column"]
theorem sc_matrix_times : FnScope n_matrix_times ["one", "other"] (defScope s_matrix_times) := ⟨rfl, rfl, rfl, by decide +kernel, rfl, by decide +kernel, by decide +kernel⟩
abbrev s_step_matrix : Stmt := topS 11
abbrev n_step_matrix : List Str := ["steps", "found", "state", "to"]
theorem sc_step_matrix : FnScope n_step_matrix ["steps"] (defScope s_step_matrix) := ⟨rfl, rfl, rfl, by decide +kernel, rfl, by decide +kernel, by decide +kernel⟩
abbrev s_reversed_charpoly : Stmt := topS 12
abbrev n_reversed_charpoly : List Str := ["steps", "matrix", "size", "found", "inner", "k", "state"]
theorem sc_reversed_charpoly : FnScope n_reversed_charpoly ["steps"] (defScope s_reversed_charpoly) := ⟨rfl, rfl, rfl, by decide +kernel, rfl, by decide +kernel, by decide +kernel⟩
abbrev s_law_begin : Stmt := topS 14
abbrev n_law_begin : List Str := ["script", "cell"]
theorem sc_law_begin : FnScope n_law_begin ["script"] (defScope s_law_begin) := ⟨rfl, rfl, rfl, by decide +kernel, rfl, by decide +kernel, by decide +kernel⟩
abbrev s_law_draw : Stmt := topS 15
abbrev n_law_draw : List Str := ["d", "many", "found", "size", "cell"]
theorem sc_law_draw : FnScope n_law_draw ["d", "many"] (defScope s_law_draw) := ⟨rfl, rfl, rfl, by decide +kernel, rfl, by decide +kernel, by decide +kernel⟩
abbrev s_law_rare : Stmt := topS 16
abbrev n_law_rare : List Str := ["d", "many"]
theorem sc_law_rare : FnScope n_law_rare ["d", "many"] (defScope s_law_rare) := ⟨rfl, rfl, rfl, by decide +kernel, rfl, by decide +kernel, by decide +kernel⟩
abbrev s_law_is_int : Stmt := topS 17
abbrev n_law_is_int : List Str := ["thing"]
theorem sc_law_is_int : FnScope n_law_is_int ["thing"] (defScope s_law_is_int) := ⟨rfl, rfl, rfl, by decide +kernel, rfl, by decide +kernel, by decide +kernel⟩
abbrev s_law_states : Stmt := topS 18
abbrev n_law_states : List Str := ["d", "letters", "most", "many", "steps", "k", "sign"]
theorem sc_law_states : FnScope n_law_states ["d", "letters", "most"] (defScope s_law_states) := ⟨rfl, rfl, rfl, by decide +kernel, rfl, by decide +kernel, by decide +kernel⟩
abbrev s_law_auto : Stmt := topS 19
abbrev n_law_auto : List Str := ["d", "letters", "most", "told"]
theorem sc_law_auto : FnScope n_law_auto ["d", "letters", "most"] (defScope s_law_auto) := ⟨rfl, rfl, rfl, by decide +kernel, rfl, by decide +kernel, by decide +kernel⟩
abbrev s_law_coefficients : Stmt := topS 20
abbrev n_law_coefficients : List Str := ["d", "many", "reach", "k"]
theorem sc_law_coefficients : FnScope n_law_coefficients ["d", "many", "reach"] (defScope s_law_coefficients) := ⟨rfl, rfl, rfl, by decide +kernel, rfl, by decide +kernel, by decide +kernel⟩
abbrev s_law_poly : Stmt := topS 21
abbrev n_law_poly : List Str := ["d", "least", "most", "many", "reach", "found"]
theorem sc_law_poly : FnScope n_law_poly ["d", "least", "most"] (defScope s_law_poly) := ⟨rfl, rfl, rfl, by decide +kernel, rfl, by decide +kernel, by decide +kernel⟩
abbrev s_law_is_poly : Stmt := topS 22
abbrev n_law_is_poly : List Str := ["thing", "number"]
theorem sc_law_is_poly : FnScope n_law_is_poly ["thing"] (defScope s_law_is_poly) := ⟨rfl, rfl, rfl, by decide +kernel, rfl, by decide +kernel, by decide +kernel⟩
abbrev s_law_times : Stmt := topS 23
abbrev n_law_times : List Str := ["one", "other", "found", "k", "j"]
theorem sc_law_times : FnScope n_law_times ["one", "other"] (defScope s_law_times) := ⟨rfl, rfl, rfl, by decide +kernel, rfl, by decide +kernel, by decide +kernel⟩
abbrev s_law_minus : Stmt := topS 24
abbrev n_law_minus : List Str := ["one", "other", "found", "k", "upper", "lower"]
theorem sc_law_minus : FnScope n_law_minus ["one", "other"] (defScope s_law_minus) := ⟨rfl, rfl, rfl, by decide +kernel, rfl, by decide +kernel, by decide +kernel⟩
abbrev s_law_common : Stmt := topS 25
abbrev n_law_common : List Str := ["row", "found", "number", "left", "rest"]
theorem sc_law_common : FnScope n_law_common ["row"] (defScope s_law_common) := ⟨rfl, rfl, rfl, by decide +kernel, rfl, by decide +kernel, by decide +kernel⟩
abbrev s_law_primitive : Stmt := topS 26
abbrev n_law_primitive : List Str := ["row", "common", "number"]
theorem sc_law_primitive : FnScope n_law_primitive ["row"] (defScope s_law_primitive) := ⟨rfl, rfl, rfl, by decide +kernel, rfl, by decide +kernel, by decide +kernel⟩
abbrev s_law_quotient : Stmt := topS 27
abbrev n_law_quotient : List Str := ["one", "other", "rest", "found", "k", "place", "lead", "factor", "j", "number"]
theorem sc_law_quotient : FnScope n_law_quotient ["one", "other"] (defScope s_law_quotient) := ⟨rfl, rfl, rfl, by decide +kernel, rfl, by decide +kernel, by decide +kernel⟩
abbrev s_law_determinant : Stmt := topS 28
abbrev n_law_determinant : List Str := ["matrix", "rows", "many", "sign", "last", "k", "place", "held", "pivot", "j", "here", "row", "i"]
theorem sc_law_determinant : FnScope n_law_determinant ["matrix"] (defScope s_law_determinant) := ⟨rfl, rfl, rfl, by decide +kernel, rfl, by decide +kernel, by decide +kernel⟩
abbrev s_law_resultant : Stmt := topS 29
abbrev n_law_resultant : List Str := ["one", "other", "many", "rows", "k", "j"]
theorem sc_law_resultant : FnScope n_law_resultant ["one", "other"] (defScope s_law_resultant) := ⟨rfl, rfl, rfl, by decide +kernel, rfl, by decide +kernel, by decide +kernel⟩
abbrev s_law_sums_fit : Stmt := topS 30
abbrev n_law_sums_fit : List Str := ["one", "other", "first", "second", "told"]
theorem sc_law_sums_fit : FnScope n_law_sums_fit ["one", "other"] (defScope s_law_sums_fit) := ⟨rfl, rfl, rfl, by decide +kernel, rfl, by decide +kernel, by decide +kernel⟩
abbrev s_law_quotient_fits : Stmt := topS 31
abbrev n_law_quotient_fits : List Str := ["one", "other", "due", "first", "second", "told"]
theorem sc_law_quotient_fits : FnScope n_law_quotient_fits ["one", "other", "due"] (defScope s_law_quotient_fits) := ⟨rfl, rfl, rfl, by decide +kernel, rfl, by decide +kernel, by decide +kernel⟩
abbrev s_law_primitive_fits : Stmt := topS 32
abbrev n_law_primitive_fits : List Str := ["row", "first", "told"]
theorem sc_law_primitive_fits : FnScope n_law_primitive_fits ["row"] (defScope s_law_primitive_fits) := ⟨rfl, rfl, rfl, by decide +kernel, rfl, by decide +kernel, by decide +kernel⟩
abbrev s_law_gcd_fits : Stmt := topS 33
abbrev n_law_gcd_fits : List Str := ["one", "other", "first", "second", "told", "left", "right"]
theorem sc_law_gcd_fits : FnScope n_law_gcd_fits ["one", "other"] (defScope s_law_gcd_fits) := ⟨rfl, rfl, rfl, by decide +kernel, rfl, by decide +kernel, by decide +kernel⟩
abbrev s_law_value : Stmt := topS 34
abbrev n_law_value : List Str := ["row", "place", "found", "k"]
theorem sc_law_value : FnScope n_law_value ["row", "place"] (defScope s_law_value) := ⟨rfl, rfl, rfl, by decide +kernel, rfl, by decide +kernel, by decide +kernel⟩
abbrev s_law_accepted_counts : Stmt := topS 35
abbrev n_law_accepted_counts : List Str := ["auto", "most", "now", "found", "length", "fresh", "k", "to", "bit"]
theorem sc_law_accepted_counts : FnScope n_law_accepted_counts ["auto", "most"] (defScope s_law_accepted_counts) := ⟨rfl, rfl, rfl, by decide +kernel, rfl, by decide +kernel, by decide +kernel⟩
abbrev s_law_charpoly_fits : Stmt := topS 36
abbrev n_law_charpoly_fits : List Str := ["auto", "steps", "many", "told", "place", "matrix", "k", "counts", "total", "j", "to"]
theorem sc_law_charpoly_fits : FnScope n_law_charpoly_fits ["auto"] (defScope s_law_charpoly_fits) := ⟨rfl, rfl, rfl, by decide +kernel, rfl, by decide +kernel, by decide +kernel⟩
abbrev s_law : Stmt := topS 37
abbrev n_law : List Str := ["script", "d", "common", "one", "other", "way", "extra", "cut", "near", "left", "right", "row", "letters"]
theorem sc_law : FnScope n_law ["script"] (defScope s_law) := ⟨rfl, rfl, rfl, by decide +kernel, rfl, by decide +kernel, by decide +kernel⟩
/-! ### sizes -/
def Bt (n : Nat) (i : Int) : Prop := i.natAbs < 2 ^ n
theorem Bt.mono {n m : Nat} {i : Int} (h : Bt n i) (l : n ≤ m) : Bt m i := Nat.lt_of_lt_of_le h (Nat.pow_le_pow_right (by decide) l)
theorem Bt.zero {n : Nat} : Bt n 0 := Nat.two_pow_pos n
theorem Bt.neg {n : Nat} {i : Int} (h : Bt n i) : Bt n (-i) := by unfold Bt; rw [Int.natAbs_neg]; exact h
theorem Bt.abs {n : Nat} {i : Int} (h : Bt n i) : Bt n (i.natAbs : Int) := by unfold Bt; rw [Int.natAbs_natCast]; exact h
theorem Bt.mul {n m : Nat} {i j : Int} (h : Bt n i) (h' : Bt m j) : Bt (n + m) (i * j) := by
  unfold Bt
  rw [Int.natAbs_mul, Nat.pow_add]
  exact Nat.mul_lt_mul'' h h'
theorem Bt.add {n : Nat} {i j : Int} (h : Bt n i) (h' : Bt n j) : Bt (n + 1) (i + j) := by
  unfold Bt at *
  have := Int.natAbs_add_le i j
  rw [Nat.pow_succ]
  omega
theorem Bt.sub {n : Nat} {i j : Int} (h : Bt n i) (h' : Bt n j) : Bt (n + 1) (i - j) := by
  rw [Int.sub_eq_add_neg]
  exact h.add h'.neg
theorem Bt.le {n : Nat} {i j : Int} (h : Bt n j) (l : i.natAbs ≤ j.natAbs) : Bt n i := Nat.lt_of_le_of_lt l h
theorem mulB {n m : Nat} {i j : Int} (h : Bt n i) (h' : Bt m j) (l : n + m ≤ 133000000) : CMulX i j :=
  mulX_of (a := n) (b := m) (Bt.mono h (Nat.le_succ n)) (Bt.mono h' (Nat.le_succ m)) (by omega)
/-- a list's numbers are small -/
def Sz (n : Nat) (l : List Int) : Prop := ∀ k, Bt n (l.getD k 0)
theorem Sz.mono {n m : Nat} {l : List Int} (h : Sz n l) (hl : n ≤ m) : Sz m l := fun k => (h k).mono hl
theorem Sz.mem {n : Nat} {l : List Int} (h : Sz n l) {a : Int} (ha : a ∈ l) : Bt n a := by
  obtain ⟨k, hk, e⟩ := List.getElem_of_mem ha
  have := h k
  rw [List.getD_eq_getElem?_getD, List.getElem?_eq_getElem hk] at this
  rw [← e]
  exact this
theorem Sz.of {n : Nat} {l : List Int} (h : ∀ a ∈ l, Bt n a) : Sz n l := fun k => by
  rw [List.getD_eq_getElem?_getD]
  cases e : l[k]? with
  | none => exact Bt.zero
  | some a => exact h a (List.mem_of_getElem? e)
/-- what the end of a list is -/
theorem abs_if (i : Int) : (if i < 0 then -i else i) = (i.natAbs : Int) := by split <;> omega
end K67
set_option Elab.async false
set_option linter.all false
set_option maxRecDepth 100000
set_option maxHeartbeats 4000000
namespace K67
open PySem PySem.Spec PyProof.Rows L2 DL
open Mat (tab tab_length tab_at trimP subP mulP cont contN prim tl T Tr)
local macro_rules | `(tactic| walk_at "wd") => `(tactic| first
  | exact Wd.put_same
  | exact Wd.at2 (by assumption)
  | assumption
  | exact Wd.put_of (by assumption) (by assumption)
  | exact Wd.put_of (by assumption) (Wd.put_of (by assumption) (by assumption))
  | fail "no world")
local macro_rules | `(tactic| walk_at "sd") => `(tactic| first
  | with_reducible refine sd_seq ?_
  | with_reducible refine sd_set ?_
  | with_reducible refine sd_asg ?_
  | with_reducible refine gd_name ?_
  | with_reducible refine sd_ret ?_
  | with_reducible refine sd_drop ?_
  | with_reducible refine sd_if ?_
  | with_reducible refine sd_par ?_
  | with_reducible refine sd_next ?_
  | with_reducible refine sd_break ?_
  | with_reducible refine sd_aug rfl ?_
  | fail "no step")
local macro_rules | `(tactic| walk_at "ix") => `(tactic| (with_reducible show OD _ (rIx _) _ _ _ _) <;> first
  | refine od_ix (.tup _) rfl ?_
  | refine od_ix (.lst [_, _, _, _]) rfl ?_
  | (refine od_ix (ds := ?dsx) (.obj ?hx) ?hy ?_; (case hx => walk_at "wd"); (case hy => exact rfl))
  | (refine od_ixLast (.lst _) ?_ ?_; (focus omega))
  | (refine od_ixLast (ns := ?nsx) (.obj ?hx) ?ha ?_; (case hx => walk_at "wd"); (case ha => omega))
  | (refine od_ixI (.lst _) ?_ ?_ ?_; (focus omega); (focus omega))
  | (refine od_ixM (.lst _) ?_ ?_ ?_; (focus omega); (focus omega))
  | (refine od_ixI (ns := ?nsx) (.obj ?hx) ?ha ?hb ?_; (case hx => walk_at "wd"); (case ha => omega); (case hb => omega))
  | (refine od_ixM (rows := ?nsx) (.obj ?hx) ?ha ?hb ?_; (case hx => walk_at "wd"); (case ha => omega); (case hb => omega))
  | fail "no index")
local macro_rules | `(tactic| walk_at "dl") => `(tactic| first
  | walk_at "sd"
  | with_reducible refine xd_int ?_
  | with_reducible refine xd_bl ?_
  | with_reducible refine xd_non ?_
  | with_reducible refine xd_str ?_
  | with_reducible refine xd_ty ?_
  | with_reducible refine xd_op ?_
  | with_reducible refine xd_un ?_
  | with_reducible refine xd_if ?_
  | with_reducible refine xd_tup ?_
  | with_reducible refine xd_cb ?_
  | with_reducible refine xd_call ?_
  | with_reducible refine xd_bm ?_
  | with_reducible refine xd_bm0 ?_
  | (refine And.intro (ty_list (ds := ?dsx) (.obj ?hx)) ?_; (case hx => walk_at "wd"))
  | (refine md_appI (ns := ?nsx) ?hx ?ha ?_; (case hx => walk_at "wd"); (case ha => omega))
  | (refine md_appM (rows := ?nsx) ?hx ?ha ?_; (case hx => walk_at "wd"); (case ha => omega))
  | (refine md_popI (ns := ?nsx) ?hx ?ha ?_; (case hx => walk_at "wd"); (case ha => omega))
  | with_reducible refine ad_nil ?_
  | with_reducible refine ad_cons ?_
  | with_reducible refine td_test ?_
  | with_reducible refine td_B ?_
  | with_reducible refine td_and ?_
  | with_reducible refine td_or ?_
  | with_reducible refine td_not ?_
  | with_reducible refine xd_andV ?_
  | with_reducible refine xd_orV ?_
  | with_reducible refine xd_notV ?_
  | with_reducible refine xd_sliceF ?_
  | with_reducible refine pd_none ?_
  | with_reducible refine pd_some ?_
  | with_reducible refine od_add ?_
  | with_reducible refine od_sub ?_
  | (with_reducible refine od_fdivR ?_ ?_; (focus omega))
  | (with_reducible refine od_modN ?_ ?_; (focus omega))
  | (with_reducible refine od_mulX ?_ ?_; (focus (refine mulB (by assumption) (by assumption) (by omega))))
  | with_reducible refine od_mulX ?_ ?_
  | (with_reducible refine od_mul ?_ ?_; (focus (first | exact Or.inl (by omega) | exact Or.inr (by omega))))
  | with_reducible refine od_lt ?_
  | with_reducible refine od_le ?_
  | with_reducible refine od_gt ?_
  | with_reducible refine od_ge ?_
  | with_reducible refine od_eqI ?_
  | with_reducible refine od_neI ?_
  | (refine od_eqL (.lst _) (.lst _) ?_; (focus skip))
  | (refine od_neL (.lst _) (.lst _) ?_; (focus skip))
  | refine od_isL ?_
  | with_reducible refine ud_neg ?_
  | with_reducible refine id_I ?_
  | refine cd_isi (b := true) (.int _) (by with_unfolding_all rfl) ?_
  | refine cd_isi (b := false) (.int _) (by with_unfolding_all rfl) ?_
  | refine cd_isi (b := true) (.lst _) (by with_unfolding_all rfl) ?_
  | with_reducible refine cd_max2 ?_
  | with_reducible refine cd_abs ?_
  | with_reducible refine cd_int1 ?_
  | with_reducible refine cd_intB ?_
  | refine cd_lenI (.lst _) ?_
  | refine cd_lenM (.lst _) ?_
  | (refine cd_lenI (ns := ?nsx) (.obj ?hx) ?_; (case hx => walk_at "wd"))
  | (refine cd_lenM (rows := ?nsx) (.obj ?hx) ?_; (case hx => walk_at "wd"))
  | refine cd_listF (.lst _) ?_
  | (refine cd_listF (ds := ?dsx) (.obj ?hx) ?_; (case hx => walk_at "wd"))
  | (refine od_catI (.lst _) (.lst _) ?_ ?_; (focus (first | omega | (simp only [List.length_append, List.length_map, tab_length]; omega))))
  | walk_at "ix"
  | with_reducible refine xd_var rfl ?_
  | with_reducible refine And.intro rfl ?_
  | with_reducible refine ⟨_, rfl, ?_⟩
  | with_reducible refine ⟨_, _, rfl, ?_⟩
  | (with_reducible refine And.intro (fun hb => ?_) (fun hb => ?_) <;> (try (exact absurd hb (by decide))) <;> (try simp only [decide_eq_true_eq, decide_eq_false_iff_not, Bool.not_eq_true', Bool.not_eq_false', Bool.true_eq_false, Bool.false_eq_true, Bool.not_eq_true, Bool.not_eq_false, Int.not_lt, Int.not_le] at hb))
  | with_reducible exact rfl
  | fail "no step")
section
variable {P : Program} {wo : World} {K : PySem.W.Frag} {mg : Str → Option Value} {base : Heap}
def fs_gcd : FS := fun ds w Q => ∃ (n : Nat) (a b : Int), ds = [.int a, .int b] ∧ n ≤ 60000000 ∧ Bt n a ∧ Bt n b ∧ Q (.int (Int.gcd a b)) w
theorem gcd_next {a b : Nat} (h : 0 < b) : (a : Int) - b * ((a : Int).fdiv b) = ((a % b : Nat) : Int) := by
  rw [Int.fdiv_eq_ediv_of_nonneg _ (by omega)]
  have := Int.emod_add_mul_ediv (a : Int) b
  rw [Int.natCast_emod]
  omega
theorem ok_gcd_of (G : Bltn mg) (hS : base.NoSeer) (hT : P.given.tree = none) {f : Addr} {fd : FuncData} (F : Fun K "gcd_of" "gcd_of" s_gcd_of f fd) : FnOk P wo K mg base CX0 41 f fd ["one", "other"] (spOf K fs_gcd) := by
  have nd := sc_gcd_of.nd
  refine fn_ok F sc_gcd_of (fun ds w Q h => ?_) fun cdv A outer s H E hr => ?_
  · obtain ⟨_, _, _, rfl, _⟩ := h
    rfl
  have hp := plain_of (N := n_gcd_of) (wo := wo) (K := K) (mg := mg) (outer := outer) (H := H) (E := E) hS hT hr (by decide) rfl rfl
  refine ⟨_, (pss_cons (ps_par (i := 0) (j := 1) rfl nd rfl rfl (by decide) rfl rfl (pa_cons (pe_callB call_abs (by rfl) G.abs_ (by decide +kernel) (pa_cons (pv 0) pa_nil)) (pa_cons (pe_callB call_abs (by rfl) G.abs_ (by decide +kernel) (pa_cons (pv 1) pa_nil)) pa_nil)) (by rfl))
  (pss_cons (ps_while PassesOwn.never (pt_cmpR op_gt (pv 1) pe_int (nomark _)) (pss_one (ps_par (i := 0) (j := 1) rfl nd rfl rfl (by decide) rfl rfl (pa_cons (pv 1) (pa_cons (pe_op op_sub (pv 0) (pe_op op_mulX (pv 1) (pe_op (op_fdivR hp) (pv 0) (pv 1)))) pa_nil)) (by rfl))))
  (pss_one (ps_ret (pv 0))))), ?_⟩
  try dsimp only [cxOf, L2.Cx.nox, L2.Cx.wish, L2.Cx.blk]
  rintro ds w R ⟨n, a, b, rfl, hn, ha, hb, q⟩
  repeat' walk_at "dl"
  refine sd_while (J := fun m ρ' w' => w' = w ∧ ∃ a' b' : Nat, m = b' ∧ ρ' = [some (.int a'), some (.int b')] ∧ Nat.gcd a' b' = Int.gcd a b ∧ Bt n a' ∧ Bt n b') b.natAbs ⟨rfl, a.natAbs, b.natAbs, rfl, by rw [abs_if, abs_if]; rfl, rfl, ha.abs, hb.abs⟩ ?_
  rintro m ρ' w' ⟨rfl, a', b', rfl, rfl, hg, ha', hb'⟩
  repeat' walk_at "dl"
  · refine mulB hb' (m := n) (ha'.le ?_) (by omega)
    rw [Int.fdiv_eq_ediv_of_nonneg _ (by omega), ← Int.natCast_ediv]
    exact Nat.div_le_self _ _
  · refine ⟨a' % m, Nat.mod_lt _ (by omega), rfl, m, a' % m, rfl, by rw [gcd_next (by omega)]; rfl, ?_, hb', ?_⟩
    · rw [← hg, Nat.gcd_comm a' m, Nat.gcd_rec m a', Nat.gcd_comm]
    · exact ha'.le (Nat.mod_le _ _)
  · have hm : m = 0 := by omega
    subst hm
    rw [Nat.gcd_zero_right] at hg
    show R (.int a') w'
    rw [hg]
    exact q

def fs_trim : FS := fun ds w Q => ∃ ns : List Int, ds = [dI ns] ∧ Q (dI (trimP ns)) w
theorem tl_stop {l : List Int} {m : Nat} (h : l.getD (m - 1) 0 ≠ 0 ∨ m = 0) : tl l m = m := by
  cases m with
  | zero => rfl
  | succ m =>
    have h : l.getD m 0 ≠ 0 := by
      rcases h with h | h
      · exact h
      · omega
    exact if_neg h
theorem tl_step {l : List Int} {m : Nat} (h : l.getD (m - 1) 0 = 0) (h0 : 0 < m) : tl l m = tl l (m - 1) := by
  obtain ⟨k, rfl⟩ : ∃ k, m = k + 1 := ⟨m - 1, by omega⟩
  exact if_pos h
theorem ok_trim_poly (G : Bltn mg) {f : Addr} {fd : FuncData} (F : Fun K "trim_poly" "trim_poly" s_trim_poly f fd) : FnOk P wo K mg base CX0 41 f fd ["row"] (spOf K fs_trim) := by
  have nd := sc_trim_poly.nd
  refine fn_ok F sc_trim_poly (fun ds w Q h => ?_) fun cdv A outer s H E hr => ?_
  · obtain ⟨ns, rfl, _⟩ := h
    rfl
  refine ⟨_, (pss_cons (ps_set (i := 1) nd rfl (Or.inl rfl) (pe_callB (r := rLenK K) call_len_seq (by rfl) G.len_ PySem.boot_len (pa_cons (pv 0) pa_nil)))
  (pss_cons (ps_while PassesOwn.never (PW.pt (pw_and (pt_cmpR op_gt (pv 1) pe_int (nomark _)) (pw_and1 (pt_cmpR op_eq (pe_ix (r := rIx K) ix_seq (pv 0) (pe_op op_sub (pv 1) pe_int) (fun _ _ => rfl)) pe_int (nomark _))))) (pss_one (ps_aug (i := 1) nd rfl (Or.inl rfl) pe_int ip_sub)))
  (pss_one (ps_ret (pe_callTy (r := rLstK K) call_list_of (by rfl) G.list_ (by decide +kernel) (pa_cons (pe_slice (r := rSlL K) sl_list (pv 0) po_none (po_some (pv 1))) pa_nil)))))), ?_⟩
  try dsimp only [cxOf, L2.Cx.nox, L2.Cx.wish, L2.Cx.blk]
  rintro ds w R ⟨ns, rfl, q⟩
  repeat' walk_at "dl"
  refine sd_while (J := fun m ρ' w' => w' = w ∧ m ≤ ns.length ∧ ρ' = [some (dI ns), some (.int m)] ∧ trimP ns = ns.take (tl ns m)) ns.length ⟨rfl, Nat.le_refl _, rfl, rfl⟩ ?_
  rintro m ρ' w' ⟨rfl, hm, rfl, ht⟩
  repeat' walk_at "dl"
  · have e := ‹ns.getD ((m : Int) - 1).toNat 0 = 0›
    rw [show ((m : Int) - 1).toNat = m - 1 by omega] at e
    exact ⟨m - 1, by omega, rfl, by omega, by show [_, _] = [_, _]; rw [show ((m : Int) - 1) = ((m - 1 : Nat) : Int) by omega], by rw [ht, tl_step e (by omega)]⟩
  · refine ⟨_, .lst _, ?_⟩
    rw [cutI_to hm]
    repeat' walk_at "dl"
    have e := ‹¬ ns.getD ((m : Int) - 1).toNat 0 = 0›
    rw [show ((m : Int) - 1).toNat = m - 1 by omega] at e
    have e : tl ns m = m := tl_stop (.inl e)
    rw [e] at ht
    rw [ht] at q
    exact q
  · refine ⟨_, .lst _, ?_⟩
    rw [cutI_to hm]
    repeat' walk_at "dl"
    have hm0 : m = 0 := by omega
    subst hm0
    rw [ht] at q
    exact q

theorem mx2 (a b : Nat) : (if (b : Int) > a then (b : Int) else a) = ((max a b : Nat) : Int) := by split <;> omega
theorem pad_at {a : List Int} {m : Nat} (k : Nat) : (a ++ tab m fun _ => 0).getD k 0 = a.getD k 0 := by
  rw [List.getD_eq_getElem?_getD, List.getD_eq_getElem?_getD]
  by_cases h : k < a.length
  · rw [List.getElem?_append_left h]
  · rw [List.getElem?_append_right (by omega), List.getElem?_eq_none (l := a) (by omega)]
    have := tab_at (n := m) (f := fun _ => 0) (k - a.length)
    rw [List.getD_eq_getElem?_getD] at this
    rw [this]
    split <;> rfl
theorem pad_length (a : List Int) (m : Nat) (h : a.length ≤ m) : (a ++ tab ((m : Int) - (a.length : Int)).toNat fun _ => 0).length = m := by
  rw [List.length_append, tab_length]
  omega

def fs_minus : FS := fun ds w Q => ∃ a b : List Int, ds = [dI a, dI b] ∧ a.length ≤ 1000 ∧ b.length ≤ 1000 ∧ Q (dI (subP a b)) w
theorem ok_poly_minus (G : Bltn mg) (C_trim_poly : Cal P wo K mg base 41 "trim_poly" ["row"] fs_trim) {f : Addr} {fd : FuncData} (F : Fun K "poly_minus" "poly_minus" s_poly_minus f fd) : FnOk P wo K mg base CX0 42 f fd ["one", "other"] (spOf K fs_minus) := by
  have nd := sc_poly_minus.nd
  refine fn_ok F sc_poly_minus (fun ds w Q h => ?_) fun cdv A outer s H E hr => ?_
  · obtain ⟨_, _, rfl, _⟩ := h
    rfl
  refine ⟨_, (pss_cons (ps_set (i := 2) nd rfl (Or.inl rfl) (pe_callB (call_max2 rfl) (by rfl) G.max_ (by decide +kernel) (pa_cons (pe_callB (r := rLenK K) call_len_seq (by rfl) G.len_ PySem.boot_len (pa_cons (pv 0) pa_nil)) (pa_cons (pe_callB (r := rLenK K) call_len_seq (by rfl) G.len_ PySem.boot_len (pa_cons (pv 1) pa_nil)) pa_nil))))
  (pss_cons (ps_set (i := 3) nd rfl (Or.inr rfl) (pe_op op_cat (pe_callTy (r := rLstK K) call_list_of (by rfl) G.list_ (by decide +kernel) (pa_cons (pv 0) pa_nil)) (pe_lc (own := [("k", 5)]) (g := gName 5) (tt := tYes) rfl nd (pi_range1 (by rfl) G.range_ (pa_cons (pe_op op_sub (pv 2) (pe_callB (r := rLenK K) call_len_seq (by rfl) G.len_ PySem.boot_len (pa_cons (pv 0) pa_nil))) pa_nil)) (blkOk_by (own := [("k", 5)]) (N := n_poly_minus) (sc := (defScope s_poly_minus)) (by decide +kernel)) (fun _ _ _ _ _ => (pg_name (i := 5) nd rfl (Or.inl rfl))) (fun _ _ _ _ _ => pts_nil) (fun _ _ _ _ _ => pe_int))))
  (pss_cons (ps_set (i := 4) nd rfl (Or.inr rfl) (pe_op op_cat (pe_callTy (r := rLstK K) call_list_of (by rfl) G.list_ (by decide +kernel) (pa_cons (pv 1) pa_nil)) (pe_lc (own := [("k", 5)]) (g := gName 5) (tt := tYes) rfl nd (pi_range1 (by rfl) G.range_ (pa_cons (pe_op op_sub (pv 2) (pe_callB (r := rLenK K) call_len_seq (by rfl) G.len_ PySem.boot_len (pa_cons (pv 1) pa_nil))) pa_nil)) (blkOk_by (own := [("k", 5)]) (N := n_poly_minus) (sc := (defScope s_poly_minus)) (by decide +kernel)) (fun _ _ _ _ _ => (pg_name (i := 5) nd rfl (Or.inl rfl))) (fun _ _ _ _ _ => pts_nil) (fun _ _ _ _ _ => pe_int))))
  (pss_one (ps_ret (pe_calK C_trim_poly rfl rfl rfl rfl rfl (hr.mono (by decide)) (by rfl) (pa_cons (pe_lc (own := [("k", 5)]) (g := gName 5) (tt := tYes) rfl nd (pi_range1 (by rfl) G.range_ (pa_cons (pv 2) pa_nil)) (blkOk_by (own := [("k", 5)]) (N := n_poly_minus) (sc := (defScope s_poly_minus)) (by decide +kernel)) (fun _ _ _ _ _ => (pg_name (i := 5) nd rfl (Or.inl rfl))) (fun _ _ _ _ _ => pts_nil) (fun _ _ _ _ _ => (pe_op op_sub (pe_ix (r := rIx K) ix_seq (pv 3) (pv 5) (fun _ _ => rfl)) (pe_ix (r := rIx K) ix_seq (pv 4) (pv 5) (fun _ _ => rfl))))) pa_nil))))))), ?_⟩
  try dsimp only [cxOf, L2.Cx.nox, L2.Cx.wish, L2.Cx.blk]
  rintro ds w R ⟨a, b, rfl, ha, hb, q⟩
  repeat' walk_at "dl"
  rw [mx2]
  refine xd_lcR1I (gw_name (by decide)) ?_
  repeat' walk_at "dl"
  refine ⟨_, fun _ => 0, rfl, by omega, by omega, fun i w' hi hs => ?_, ?_⟩
  · repeat' walk_at "dl"
  repeat' walk_at "dl"
  refine xd_lcR1I (gw_name (by decide)) ?_
  repeat' walk_at "dl"
  refine ⟨_, fun _ => 0, rfl, by omega, by omega, fun i w' hi hs => ?_, ?_⟩
  · repeat' walk_at "dl"
  repeat' walk_at "dl"
  have hl1 := pad_length a (max a.length b.length) (by omega)
  have hl2 := pad_length b (max a.length b.length) (by omega)
  refine xd_lcR1I (gw_name (by decide)) ?_
  repeat' walk_at "dl"
  refine ⟨_, fun k => a.getD k 0 - b.getD k 0, rfl, by omega, by omega, fun i w' hi hs => ?_, ?_⟩
  · repeat' walk_at "dl"
    rw [pad_at, pad_at, Int.toNat_natCast]
  repeat' walk_at "dl"
  exact ⟨_, rfl, q⟩
end
end K67
set_option Elab.async false
set_option linter.all false
set_option maxRecDepth 100000
set_option maxHeartbeats 4000000
namespace K67
open PySem PySem.Spec PyProof.Rows L2 DL
open Mat (tab tab_length tab_at trimP subP mulP cont contN prim tl T Tr sm)
local macro_rules | `(tactic| walk_at "wd") => `(tactic| first
  | exact Wd.put_same
  | exact Wd.at2 (by assumption)
  | assumption
  | exact Wd.put_of (by assumption) (by assumption)
  | exact Wd.put_of (by assumption) (Wd.put_of (by assumption) (by assumption))
  | fail "no world")
local macro_rules | `(tactic| walk_at "sd") => `(tactic| first
  | with_reducible refine sd_seq ?_
  | with_reducible refine sd_set ?_
  | with_reducible refine sd_asg ?_
  | with_reducible refine gd_name ?_
  | with_reducible refine sd_ret ?_
  | with_reducible refine sd_drop ?_
  | with_reducible refine sd_if ?_
  | with_reducible refine sd_par ?_
  | with_reducible refine sd_next ?_
  | with_reducible refine sd_break ?_
  | with_reducible refine sd_aug rfl ?_
  | fail "no step")
local macro_rules | `(tactic| walk_at "ix") => `(tactic| (with_reducible show OD _ (rIx _) _ _ _ _) <;> first
  | refine od_ix (.tup _) rfl ?_
  | refine od_ix (.lst [_, _, _, _]) rfl ?_
  | (refine od_ix (ds := ?dsx) (.obj ?hx) ?hy ?_; (case hx => walk_at "wd"); (case hy => exact rfl))
  | (refine od_ixLast (.lst _) ?_ ?_; (focus omega))
  | (refine od_ixLast (ns := ?nsx) (.obj ?hx) ?ha ?_; (case hx => walk_at "wd"); (case ha => omega))
  | (refine od_ixI (.lst _) ?_ ?_ ?_; (focus omega); (focus omega))
  | (refine od_ixM (.lst _) ?_ ?_ ?_; (focus omega); (focus omega))
  | (refine od_ixI (ns := ?nsx) (.obj ?hx) ?ha ?hb ?_; (case hx => walk_at "wd"); (case ha => omega); (case hb => omega))
  | (refine od_ixM (rows := ?nsx) (.obj ?hx) ?ha ?hb ?_; (case hx => walk_at "wd"); (case ha => omega); (case hb => omega))
  | fail "no index")
local macro_rules | `(tactic| walk_at "dl") => `(tactic| first
  | walk_at "sd"
  | with_reducible refine xd_int ?_
  | with_reducible refine xd_bl ?_
  | with_reducible refine xd_non ?_
  | with_reducible refine xd_str ?_
  | with_reducible refine xd_ty ?_
  | with_reducible refine xd_op ?_
  | with_reducible refine xd_un ?_
  | with_reducible refine xd_if ?_
  | with_reducible refine xd_tup ?_
  | with_reducible refine xd_cb ?_
  | with_reducible refine xd_call ?_
  | with_reducible refine xd_bm ?_
  | with_reducible refine xd_bm0 ?_
  | (refine And.intro (ty_list (ds := ?dsx) (.obj ?hx)) ?_; (case hx => walk_at "wd"))
  | (refine md_appI (ns := ?nsx) ?hx ?ha ?_; (case hx => walk_at "wd"); (case ha => omega))
  | (refine md_appM (rows := ?nsx) ?hx ?ha ?_; (case hx => walk_at "wd"); (case ha => omega))
  | (refine md_popI (ns := ?nsx) ?hx ?ha ?_; (case hx => walk_at "wd"); (case ha => omega))
  | with_reducible refine ad_nil ?_
  | with_reducible refine ad_cons ?_
  | with_reducible refine td_test ?_
  | with_reducible refine td_B ?_
  | with_reducible refine td_and ?_
  | with_reducible refine td_or ?_
  | with_reducible refine td_not ?_
  | with_reducible refine xd_andV ?_
  | with_reducible refine xd_orV ?_
  | with_reducible refine xd_notV ?_
  | with_reducible refine xd_sliceF ?_
  | with_reducible refine pd_none ?_
  | with_reducible refine pd_some ?_
  | with_reducible refine od_add ?_
  | with_reducible refine od_sub ?_
  | (with_reducible refine od_fdivR ?_ ?_; (focus omega))
  | (with_reducible refine od_modN ?_ ?_; (focus omega))
  | (with_reducible refine od_mulX ?_ ?_; (focus (refine mulB (by assumption) (by assumption) (by omega))))
  | with_reducible refine od_mulX ?_ ?_
  | (with_reducible refine od_mul ?_ ?_; (focus (first | exact Or.inl (by omega) | exact Or.inr (by omega))))
  | with_reducible refine od_lt ?_
  | with_reducible refine od_le ?_
  | with_reducible refine od_gt ?_
  | with_reducible refine od_ge ?_
  | with_reducible refine od_eqI ?_
  | with_reducible refine od_neI ?_
  | (refine od_eqL (.lst _) (.lst _) ?_; (focus skip))
  | (refine od_neL (.lst _) (.lst _) ?_; (focus skip))
  | refine od_isL ?_
  | with_reducible refine ud_neg ?_
  | with_reducible refine id_I ?_
  | refine cd_isi (b := true) (.int _) (by with_unfolding_all rfl) ?_
  | refine cd_isi (b := false) (.int _) (by with_unfolding_all rfl) ?_
  | refine cd_isi (b := true) (.lst _) (by with_unfolding_all rfl) ?_
  | with_reducible refine cd_max2 ?_
  | with_reducible refine cd_abs ?_
  | with_reducible refine cd_int1 ?_
  | with_reducible refine cd_intB ?_
  | refine cd_lenI (.lst _) ?_
  | refine cd_lenM (.lst _) ?_
  | (refine cd_lenI (ns := ?nsx) (.obj ?hx) ?_; (case hx => walk_at "wd"))
  | (refine cd_lenM (rows := ?nsx) (.obj ?hx) ?_; (case hx => walk_at "wd"))
  | refine cd_listF (.lst _) ?_
  | (refine cd_listF (ds := ?dsx) (.obj ?hx) ?_; (case hx => walk_at "wd"))
  | (refine od_catI (.lst _) (.lst _) ?_ ?_; (focus (first | omega | (simp only [List.length_append, List.length_map, tab_length]; omega))))
  | walk_at "ix"
  | with_reducible refine xd_var rfl ?_
  | with_reducible refine And.intro rfl ?_
  | with_reducible refine ⟨_, rfl, ?_⟩
  | with_reducible refine ⟨_, _, rfl, ?_⟩
  | (with_reducible refine And.intro (fun hb => ?_) (fun hb => ?_) <;> (try (exact absurd hb (by decide))) <;> (try simp only [decide_eq_true_eq, decide_eq_false_iff_not, Bool.not_eq_true', Bool.not_eq_false', Bool.true_eq_false, Bool.false_eq_true, Bool.not_eq_true, Bool.not_eq_false, Int.not_lt, Int.not_le] at hb))
  | with_reducible exact rfl
  | fail "no step")
/-- the product so far: k rows whole, j numbers of the next -/
def cv (a b : List Int) (k j n : Nat) : Int := sm (fun q => a.getD q 0 * (if q ≤ n then b.getD (n - q) 0 else 0)) k + (if k ≤ n ∧ n - k < j then a.getD k 0 * b.getD (n - k) 0 else 0)
theorem cv_zero {a b : List Int} {n : Nat} : cv a b 0 0 n = 0 := by
  unfold cv
  rw [if_neg (by omega)]
  rfl
theorem cv_step {a b : List Int} {k j n : Nat} : cv a b k (j + 1) n = if n = k + j then cv a b k j n + a.getD k 0 * b.getD j 0 else cv a b k j n := by
  unfold cv
  by_cases h : n = k + j
  · subst h
    rw [if_pos (by omega), if_pos rfl, if_neg (by omega), show k + j - k = j by omega]
    omega
  · rw [if_neg h]
    by_cases h2 : k ≤ n ∧ n - k < j
    · rw [if_pos h2, if_pos (by omega)]
    · rw [if_neg h2, if_neg (by omega)]
theorem cv_next {a b : List Int} {k n : Nat} : cv a b k b.length n = cv a b (k + 1) 0 n := by
  unfold cv
  rw [if_neg (show ¬ (k + 1 ≤ n ∧ n - (k + 1) < 0) by omega)]
  show _ = sm _ k + a.getD k 0 * (if k ≤ n then b.getD (n - k) 0 else 0) + 0
  by_cases h : k ≤ n
  · rw [if_pos h]
    by_cases h2 : n - k < b.length
    · rw [if_pos ⟨h, h2⟩]; omega
    · rw [if_neg (by omega), Mat.getD_over (l := b) (by omega), Int.mul_zero]; omega
  · rw [if_neg h, if_neg (by omega), Int.mul_zero]; omega
theorem cv_end {a b : List Int} {n : Nat} : cv a b a.length 0 n = (T a * T b) n := by
  unfold cv
  rw [if_neg (by omega), Mat.PS.conv, Int.add_zero]
  -- both sums run over the places of a up to n
  have e : ∀ m, sm (fun q => a.getD q 0 * (if q ≤ n then b.getD (n - q) 0 else 0)) (a.length + m) = sm (fun q => a.getD q 0 * (if q ≤ n then b.getD (n - q) 0 else 0)) a.length := by
    intro m
    induction m with
    | zero => rfl
    | succ m ih =>
      show sm _ (a.length + m) + a.getD (a.length + m) 0 * _ = _
      rw [ih, Mat.getD_over (l := a) (by omega), Int.zero_mul]; omega
  have e2 : ∀ m, sm (fun q => a.getD q 0 * (if q ≤ n then b.getD (n - q) 0 else 0)) (n + 1 + m) = sm (fun q => a.getD q 0 * (if q ≤ n then b.getD (n - q) 0 else 0)) (n + 1) := by
    intro m
    induction m with
    | zero => rfl
    | succ m ih =>
      show sm _ (n + 1 + m) + a.getD (n + 1 + m) 0 * (if n + 1 + m ≤ n then _ else 0) = _
      rw [ih, if_neg (by omega), Int.mul_zero]; omega
  rw [← e (n + 1), show a.length + (n + 1) = n + 1 + a.length by omega, e2]
  exact Mat.sm_congr fun q hq => by
    show a.getD q 0 * (if q ≤ n then b.getD (n - q) 0 else 0) = a.getD q 0 * b.getD (n - q) 0
    rw [if_pos (by omega)]
theorem cv_list {a b ns : List Int} (h : ns.length = a.length + b.length - 1) (ha : a.length ≠ 0) (hb : b.length ≠ 0) (e : ∀ n, ns.getD n 0 = cv a b a.length 0 n) : ns = mulP a b :=
  Mat.T_ext (by rw [h, Mat.mulP_length ha hb]) (Mat.PS.ps_ext fun n => by rw [Mat.mulP_T, ← cv_end, ← e]; rfl)
section
variable {P : Program} {wo : World} {K : PySem.W.Frag} {mg : Str → Option Value} {base : Heap}
def fs_times : FS := fun ds w Q => ∃ (n : Nat) (a b : List Int), ds = [dI a, dI b] ∧ n ≤ 60000000 ∧ Sz n a ∧ Sz n b ∧ a.length ≤ 1000 ∧ b.length ≤ 1000 ∧ Q (dI (trimP (mulP a b))) w
def fs_ltimes : FS := fun ds w Q => ∃ (n : Nat) (a b : List Int), ds = [dI a, dI b] ∧ n ≤ 60000000 ∧ Sz n a ∧ Sz n b ∧ a.length ≤ 1000 ∧ b.length ≤ 1000 ∧ Q (dI (mulP a b)) w
theorem ok_poly_times (G : Bltn mg) (C_trim_poly : Cal P wo K mg base 41 "trim_poly" ["row"] fs_trim) {f : Addr} {fd : FuncData} (F : Fun K "poly_times" "poly_times" s_poly_times f fd) : FnOk P wo K mg base CX0 42 f fd ["one", "other"] (spOf K fs_times) := by
  have nd := sc_poly_times.nd
  refine fn_ok F sc_poly_times (fun ds w Q h => ?_) fun cdv A outer s H E hr => ?_
  · obtain ⟨_, _, _, rfl, _⟩ := h
    rfl
  refine ⟨_, (pss_cons (ps_if (PW.pt (pw_or (pt_cmpR op_eq (pe_callB (r := rLenK K) call_len_seq (by rfl) G.len_ PySem.boot_len (pa_cons (pv 0) pa_nil)) pe_int (nomark _)) (pw_or1 (pt_cmpR op_eq (pe_callB (r := rLenK K) call_len_seq (by rfl) G.len_ PySem.boot_len (pa_cons (pv 1) pa_nil)) pe_int (nomark _))))) (pss_one (ps_ret (pe_lst pa_nil))) pss_nil)
  (pss_cons (ps_setLc (i := 2) (own := [("k", 3)]) (g := gName 3) (tt := tYes) rfl nd rfl rfl (sw_true rfl rfl rfl (by decide +kernel)) (pi_range1 (by rfl) G.range_ (pa_cons (pe_op op_sub (pe_op op_add (pe_callB (r := rLenK K) call_len_seq (by rfl) G.len_ PySem.boot_len (pa_cons (pv 0) pa_nil)) (pe_callB (r := rLenK K) call_len_seq (by rfl) G.len_ PySem.boot_len (pa_cons (pv 1) pa_nil))) pe_int) pa_nil)) (blkOk_by (own := [("k", 3)]) (N := n_poly_times) (sc := (defScope s_poly_times)) (by decide +kernel)) (fun _ _ _ _ _ => (pg_name (i := 3) nd rfl (Or.inl rfl))) (fun _ _ _ _ _ => pts_nil) (fun _ _ _ _ _ => pe_int))
  (pss_cons (ps_for PassesOwn.never rfl (pi_range1 (by rfl) G.range_ (pa_cons (pe_callB (r := rLenK K) call_len_seq (by rfl) G.len_ PySem.boot_len (pa_cons (pv 0) pa_nil)) pa_nil)) (pg_name (i := 3) nd rfl (Or.inl rfl)) (pss_one (ps_for PassesOwn.never rfl (pi_range1 (by rfl) G.range_ (pa_cons (pe_callB (r := rLenK K) call_len_seq (by rfl) G.len_ PySem.boot_len (pa_cons (pv 1) pa_nil)) pa_nil)) (pg_name (i := 4) nd rfl (Or.inl rfl)) (pss_one (ps_augS (pv 2) (pe_op op_add (pv 3) (pv 4)) get_list (pe_op op_mulX (pe_ix (r := rIx K) ix_seq (pv 0) (pv 3) (fun _ _ => rfl)) (pe_ix (r := rIx K) ix_seq (pv 1) (pv 4) (fun _ _ => rfl))) ip_add set_list)))))
  (pss_one (ps_ret (pe_calK C_trim_poly rfl rfl rfl rfl rfl (hr.mono (by decide)) (by rfl) (pa_cons (pv 2) pa_nil))))))), ?_⟩
  try dsimp only [cxOf, L2.Cx.nox, L2.Cx.wish, L2.Cx.blk]
  rintro ds w R ⟨n, a, b, rfl, hn, hsa, hsb, ha, hb, q⟩
  repeat' walk_at "dl"
  · refine xd_lstE ?_
    rw [Mat.mulP_nil (.inl (by omega))] at q
    exact q
  · refine xd_lstE ?_
    rw [Mat.mulP_nil (.inr (by omega))] at q
    exact q
  refine xd_lcR1J (gw_name (by decide)) ?_
  repeat' walk_at "dl"
  refine ⟨_, fun _ => 0, rfl, by omega, by omega, fun i w' hi hs => ?_, fun p hp => ?_⟩
  · repeat' walk_at "dl"
  repeat' walk_at "dl"
  refine sd_forR1 ?_
  repeat' walk_at "dl"
  refine ⟨by omega, by omega, fun i ρ' w' => ∃ (ns : List Int) (o3 o4 : Option Dat), ρ' = [some (dI a), some (dI b), some (.obj p), o3, o4] ∧ w' = w.put p (ns.map .int) ∧ ns.length = a.length + b.length - 1 ∧ ∀ n, ns.getD n 0 = cv a b i 0 n, ⟨_, none, none, rfl, rfl, by rw [tab_length]; omega, fun n => ?_⟩, ?_, ?_⟩
  · rw [cv_zero, tab_at]
    split <;> rfl
  · rintro k ρ' w' hk ⟨ns, o3, o4, rfl, rfl, hl, hv⟩
    repeat' walk_at "dl"
    refine sd_forR1 ?_
    repeat' walk_at "dl"
    refine ⟨by omega, by omega, fun j ρ' w' => ∃ (ns : List Int) (o4 : Option Dat), ρ' = [some (dI a), some (dI b), some (.obj p), some (.int k), o4] ∧ w' = w.put p (ns.map .int) ∧ ns.length = a.length + b.length - 1 ∧ ∀ n, ns.getD n 0 = cv a b k j n, ⟨_, o4, rfl, rfl, hl, hv⟩, ?_, ?_⟩
    · rintro j ρ' w' hj ⟨ns, o4, rfl, rfl, hl, hv⟩
      repeat' walk_at "dl"
      refine sd_augI ?_
      repeat' walk_at "dl"
      refine ⟨p, ns, _, rfl, rfl, Wd.put_same, by omega, by omega, ?_⟩
      repeat' walk_at "dl"
      · exact mulB (hsa _) (hsb _) (by omega)
      refine ⟨ns.set ((k : Int) + (j : Int)).toNat _, _, rfl, by rw [Wd.put_put], by rw [List.length_set]; exact hl, fun n => ?_⟩
      rw [getD_set _ (by omega), hv, hv, cv_step, show ((k : Int) + (j : Int)).toNat = k + j by omega]
      by_cases e : n = k + j
      · subst e; rw [if_pos rfl, if_pos rfl]; rfl
      · rw [if_neg e, if_neg e]
    · rintro ρ' w' ⟨ns, o4, rfl, rfl, hl, hv⟩
      exact ⟨ns, _, o4, rfl, rfl, hl, fun n => by rw [hv, Int.toNat_natCast, cv_next]⟩
  rintro ρ' w' ⟨ns, o3, o4, rfl, rfl, hl, hv⟩
  rw [Int.toNat_natCast] at hv
  refine sd_frz (n := 2) rfl Wd.put_same ?_
  rw [Wd.del_put hp]
  repeat' walk_at "dl"
  rw [cv_list hl (by omega) (by omega) hv]
  exact ⟨_, rfl, q⟩
theorem ok_law_times (G : Bltn mg) {f : Addr} {fd : FuncData} (F : Fun K "_law_times" "_law_times" s_law_times f fd) : FnOk P wo K mg base CX0 42 f fd ["one", "other"] (spOf K fs_ltimes) := by
  have nd := sc_law_times.nd
  refine fn_ok F sc_law_times (fun ds w Q h => ?_) fun cdv A outer s H E hr => ?_
  · obtain ⟨_, _, _, rfl, _⟩ := h
    rfl
  refine ⟨_, (pss_cons (ps_if (PW.pt (pw_or (pt_cmpR op_eq (pe_callB (r := rLenK K) call_len_seq (by rfl) G.len_ PySem.boot_len (pa_cons (pv 0) pa_nil)) pe_int (nomark _)) (pw_or1 (pt_cmpR op_eq (pe_callB (r := rLenK K) call_len_seq (by rfl) G.len_ PySem.boot_len (pa_cons (pv 1) pa_nil)) pe_int (nomark _))))) (pss_one (ps_ret (pe_lst pa_nil))) pss_nil)
  (pss_cons (ps_setLc (i := 2) (own := [("k", 3)]) (g := gName 3) (tt := tYes) rfl nd rfl rfl (sw_true rfl rfl rfl (by decide +kernel)) (pi_range1 (by rfl) G.range_ (pa_cons (pe_op op_sub (pe_op op_add (pe_callB (r := rLenK K) call_len_seq (by rfl) G.len_ PySem.boot_len (pa_cons (pv 0) pa_nil)) (pe_callB (r := rLenK K) call_len_seq (by rfl) G.len_ PySem.boot_len (pa_cons (pv 1) pa_nil))) pe_int) pa_nil)) (blkOk_by (own := [("k", 3)]) (N := n_law_times) (sc := (defScope s_law_times)) (by decide +kernel)) (fun _ _ _ _ _ => (pg_name (i := 3) nd rfl (Or.inl rfl))) (fun _ _ _ _ _ => pts_nil) (fun _ _ _ _ _ => pe_int))
  (pss_cons (ps_for PassesOwn.never rfl (pi_range1 (by rfl) G.range_ (pa_cons (pe_callB (r := rLenK K) call_len_seq (by rfl) G.len_ PySem.boot_len (pa_cons (pv 0) pa_nil)) pa_nil)) (pg_name (i := 3) nd rfl (Or.inl rfl)) (pss_one (ps_for PassesOwn.never rfl (pi_range1 (by rfl) G.range_ (pa_cons (pe_callB (r := rLenK K) call_len_seq (by rfl) G.len_ PySem.boot_len (pa_cons (pv 1) pa_nil)) pa_nil)) (pg_name (i := 4) nd rfl (Or.inl rfl)) (pss_one (ps_augS (pv 2) (pe_op op_add (pv 3) (pv 4)) get_list (pe_op op_mulX (pe_ix (r := rIx K) ix_seq (pv 0) (pv 3) (fun _ _ => rfl)) (pe_ix (r := rIx K) ix_seq (pv 1) (pv 4) (fun _ _ => rfl))) ip_add set_list)))))
  (pss_one (ps_ret (pv 2)))))), ?_⟩
  try dsimp only [cxOf, L2.Cx.nox, L2.Cx.wish, L2.Cx.blk]
  rintro ds w R ⟨n, a, b, rfl, hn, hsa, hsb, ha, hb, q⟩
  repeat' walk_at "dl"
  · refine xd_lstE ?_
    rw [Mat.mulP_nil (.inl (by omega))] at q
    exact q
  · refine xd_lstE ?_
    rw [Mat.mulP_nil (.inr (by omega))] at q
    exact q
  refine xd_lcR1J (gw_name (by decide)) ?_
  repeat' walk_at "dl"
  refine ⟨_, fun _ => 0, rfl, by omega, by omega, fun i w' hi hs => ?_, fun p hp => ?_⟩
  · repeat' walk_at "dl"
  repeat' walk_at "dl"
  refine sd_forR1 ?_
  repeat' walk_at "dl"
  refine ⟨by omega, by omega, fun i ρ' w' => ∃ (ns : List Int) (o3 o4 : Option Dat), ρ' = [some (dI a), some (dI b), some (.obj p), o3, o4] ∧ w' = w.put p (ns.map .int) ∧ ns.length = a.length + b.length - 1 ∧ ∀ n, ns.getD n 0 = cv a b i 0 n, ⟨_, none, none, rfl, rfl, by rw [tab_length]; omega, fun n => ?_⟩, ?_, ?_⟩
  · rw [cv_zero, tab_at]
    split <;> rfl
  · rintro k ρ' w' hk ⟨ns, o3, o4, rfl, rfl, hl, hv⟩
    repeat' walk_at "dl"
    refine sd_forR1 ?_
    repeat' walk_at "dl"
    refine ⟨by omega, by omega, fun j ρ' w' => ∃ (ns : List Int) (o4 : Option Dat), ρ' = [some (dI a), some (dI b), some (.obj p), some (.int k), o4] ∧ w' = w.put p (ns.map .int) ∧ ns.length = a.length + b.length - 1 ∧ ∀ n, ns.getD n 0 = cv a b k j n, ⟨_, o4, rfl, rfl, hl, hv⟩, ?_, ?_⟩
    · rintro j ρ' w' hj ⟨ns, o4, rfl, rfl, hl, hv⟩
      repeat' walk_at "dl"
      refine sd_augI ?_
      repeat' walk_at "dl"
      refine ⟨p, ns, _, rfl, rfl, Wd.put_same, by omega, by omega, ?_⟩
      repeat' walk_at "dl"
      · exact mulB (hsa _) (hsb _) (by omega)
      refine ⟨ns.set ((k : Int) + (j : Int)).toNat _, _, rfl, by rw [Wd.put_put], by rw [List.length_set]; exact hl, fun n => ?_⟩
      rw [getD_set _ (by omega), hv, hv, cv_step, show ((k : Int) + (j : Int)).toNat = k + j by omega]
      by_cases e : n = k + j
      · subst e; rw [if_pos rfl, if_pos rfl]; rfl
      · rw [if_neg e, if_neg e]
    · rintro ρ' w' ⟨ns, o4, rfl, rfl, hl, hv⟩
      exact ⟨ns, _, o4, rfl, rfl, hl, fun n => by rw [hv, Int.toNat_natCast, cv_next]⟩
  rintro ρ' w' ⟨ns, o3, o4, rfl, rfl, hl, hv⟩
  rw [Int.toNat_natCast] at hv
  refine sd_frz (n := 2) rfl Wd.put_same ?_
  rw [Wd.del_put hp]
  repeat' walk_at "dl"
  rw [cv_list hl (by omega) (by omega) hv]
  exact q
end
end K67
set_option Elab.async false
set_option linter.all false
set_option maxRecDepth 100000
set_option maxHeartbeats 4000000
namespace K67
open PySem PySem.Spec PyProof.Rows L2 DL
open Mat (tab tab_length tab_at trimP subP mulP cont contN prim sgl tl T Tr sm)
local macro_rules | `(tactic| walk_at "wd") => `(tactic| first
  | exact Wd.put_same
  | exact Wd.at2 (by assumption)
  | assumption
  | exact Wd.put_of (by assumption) (by assumption)
  | exact Wd.put_of (by assumption) (Wd.put_of (by assumption) (by assumption))
  | fail "no world")
local macro_rules | `(tactic| walk_at "sd") => `(tactic| first
  | with_reducible refine sd_seq ?_
  | with_reducible refine sd_set ?_
  | with_reducible refine sd_asg ?_
  | with_reducible refine gd_name ?_
  | with_reducible refine sd_ret ?_
  | with_reducible refine sd_drop ?_
  | with_reducible refine sd_if ?_
  | with_reducible refine sd_par ?_
  | with_reducible refine sd_next ?_
  | with_reducible refine sd_break ?_
  | with_reducible refine sd_aug rfl ?_
  | fail "no step")
local macro_rules | `(tactic| walk_at "ix") => `(tactic| (with_reducible show OD _ (rIx _) _ _ _ _) <;> first
  | refine od_ix (.tup _) rfl ?_
  | refine od_ix (.lst [_, _, _, _]) rfl ?_
  | (refine od_ix (ds := ?dsx) (.obj ?hx) ?hy ?_; (case hx => walk_at "wd"); (case hy => exact rfl))
  | (refine od_ixLast (.lst _) ?_ ?_; (focus omega))
  | (refine od_ixLast (ns := ?nsx) (.obj ?hx) ?ha ?_; (case hx => walk_at "wd"); (case ha => omega))
  | (refine od_ixI (.lst _) ?_ ?_ ?_; (focus omega); (focus omega))
  | (refine od_ixM (.lst _) ?_ ?_ ?_; (focus omega); (focus omega))
  | (refine od_ixI (ns := ?nsx) (.obj ?hx) ?ha ?hb ?_; (case hx => walk_at "wd"); (case ha => omega); (case hb => omega))
  | (refine od_ixM (rows := ?nsx) (.obj ?hx) ?ha ?hb ?_; (case hx => walk_at "wd"); (case ha => omega); (case hb => omega))
  | fail "no index")
local macro_rules | `(tactic| walk_at "dl") => `(tactic| first
  | walk_at "sd"
  | with_reducible refine xd_int ?_
  | with_reducible refine xd_bl ?_
  | with_reducible refine xd_non ?_
  | with_reducible refine xd_str ?_
  | with_reducible refine xd_ty ?_
  | with_reducible refine xd_op ?_
  | with_reducible refine xd_un ?_
  | with_reducible refine xd_if ?_
  | with_reducible refine xd_tup ?_
  | with_reducible refine xd_cb ?_
  | with_reducible refine xd_call ?_
  | with_reducible refine xd_bm ?_
  | with_reducible refine xd_bm0 ?_
  | (refine And.intro (ty_list (ds := ?dsx) (.obj ?hx)) ?_; (case hx => walk_at "wd"))
  | (refine md_appI (ns := ?nsx) ?hx ?ha ?_; (case hx => walk_at "wd"); (case ha => omega))
  | (refine md_appM (rows := ?nsx) ?hx ?ha ?_; (case hx => walk_at "wd"); (case ha => omega))
  | (refine md_popI (ns := ?nsx) ?hx ?ha ?_; (case hx => walk_at "wd"); (case ha => omega))
  | with_reducible refine ad_nil ?_
  | with_reducible refine ad_cons ?_
  | with_reducible refine td_test ?_
  | with_reducible refine td_B ?_
  | with_reducible refine td_and ?_
  | with_reducible refine td_or ?_
  | with_reducible refine td_not ?_
  | with_reducible refine xd_andV ?_
  | with_reducible refine xd_orV ?_
  | with_reducible refine xd_notV ?_
  | with_reducible refine xd_sliceF ?_
  | with_reducible refine pd_none ?_
  | with_reducible refine pd_some ?_
  | with_reducible refine od_add ?_
  | with_reducible refine od_sub ?_
  | (with_reducible refine od_fdivR ?_ ?_; (focus omega))
  | (with_reducible refine od_modN ?_ ?_; (focus omega))
  | (with_reducible refine od_mulX ?_ ?_; (focus (refine mulB (by assumption) (by assumption) (by omega))))
  | with_reducible refine od_mulX ?_ ?_
  | (with_reducible refine od_mul ?_ ?_; (focus (first | exact Or.inl (by omega) | exact Or.inr (by omega))))
  | with_reducible refine od_lt ?_
  | with_reducible refine od_le ?_
  | with_reducible refine od_gt ?_
  | with_reducible refine od_ge ?_
  | with_reducible refine od_eqI ?_
  | with_reducible refine od_neI ?_
  | (refine od_eqL (.lst _) (.lst _) ?_; (focus skip))
  | (refine od_neL (.lst _) (.lst _) ?_; (focus skip))
  | refine od_isL ?_
  | with_reducible refine ud_neg ?_
  | with_reducible refine id_I ?_
  | refine cd_isi (b := true) (.int _) (by with_unfolding_all rfl) ?_
  | refine cd_isi (b := false) (.int _) (by with_unfolding_all rfl) ?_
  | refine cd_isi (b := true) (.lst _) (by with_unfolding_all rfl) ?_
  | with_reducible refine cd_max2 ?_
  | with_reducible refine cd_abs ?_
  | with_reducible refine cd_int1 ?_
  | with_reducible refine cd_intB ?_
  | refine cd_lenI (.lst _) ?_
  | refine cd_lenM (.lst _) ?_
  | (refine cd_lenI (ns := ?nsx) (.obj ?hx) ?_; (case hx => walk_at "wd"))
  | (refine cd_lenM (rows := ?nsx) (.obj ?hx) ?_; (case hx => walk_at "wd"))
  | refine cd_listF (.lst _) ?_
  | (refine cd_listF (ds := ?dsx) (.obj ?hx) ?_; (case hx => walk_at "wd"))
  | (refine od_catI (.lst _) (.lst _) ?_ ?_; (focus (first | omega | (simp only [List.length_append, List.length_map, tab_length]; omega))))
  | walk_at "ix"
  | with_reducible refine xd_var rfl ?_
  | with_reducible refine And.intro rfl ?_
  | with_reducible refine ⟨_, rfl, ?_⟩
  | with_reducible refine ⟨_, _, rfl, ?_⟩
  | (with_reducible refine And.intro (fun hb => ?_) (fun hb => ?_) <;> (try (exact absurd hb (by decide))) <;> (try simp only [decide_eq_true_eq, decide_eq_false_iff_not, Bool.not_eq_true', Bool.not_eq_false', Bool.true_eq_false, Bool.false_eq_true, Bool.not_eq_true, Bool.not_eq_false, Int.not_lt, Int.not_le] at hb))
  | with_reducible exact rfl
  | fail "no step")
theorem bt_contN {n : Nat} {l : List Int} (h : Sz n l) : ∀ i, Bt n (contN l i : Int)
  | 0 => Bt.zero
  | i + 1 => by
    show Bt n ((Nat.gcd (contN l i) (l.getD i 0).natAbs : Nat) : Int)
    by_cases e : (l.getD i 0).natAbs = 0
    · rw [e, Nat.gcd_zero_right]; exact bt_contN h i
    · refine (h i).le ?_
      rw [Int.natAbs_natCast]
      exact Nat.le_of_dvd (by omega) (Nat.gcd_dvd_right _ _)
section
variable {P : Program} {wo : World} {K : PySem.W.Frag} {mg : Str → Option Value} {base : Heap}
def fs_prim : FS := fun ds w Q => ∃ (n : Nat) (ns : List Int), ds = [dI ns] ∧ n ≤ 60000000 ∧ Sz n ns ∧ ns.length ≤ 1000 ∧ Q (dI (prim ns)) w
theorem ok_primitive_part (G : Bltn mg) (hS : base.NoSeer) (hT : P.given.tree = none) (C_gcd_of : Cal P wo K mg base 41 "gcd_of" ["one", "other"] fs_gcd) {f : Addr} {fd : FuncData} (F : Fun K "primitive_part" "primitive_part" s_primitive_part f fd) : FnOk P wo K mg base CX0 42 f fd ["row"] (spOf K fs_prim) := by
  have nd := sc_primitive_part.nd
  refine fn_ok F sc_primitive_part (fun ds w Q h => ?_) fun cdv A outer s H E hr => ?_
  · obtain ⟨_, _, rfl, _⟩ := h
    rfl
  have hp := plain_of (N := n_primitive_part) (wo := wo) (K := K) (mg := mg) (outer := outer) (H := H) (E := E) hS hT hr (by decide) rfl rfl
  refine ⟨_, (pss_cons (ps_set (i := 1) nd rfl (Or.inr rfl) pe_int)
  (pss_cons (ps_for PassesOwn.never rfl (pi_listK (K := K) rfl (pv 0)) (pg_name (i := 2) nd rfl (Or.inl rfl)) (pss_one (ps_set (i := 1) nd rfl (Or.inr rfl) (pe_calK C_gcd_of rfl rfl rfl rfl rfl (hr.mono (by decide)) (by rfl) (pa_cons (pv 1) (pa_cons (pv 2) pa_nil))))))
  (pss_cons (ps_if (pt_cmpR op_eq (pv 1) pe_int (nomark _)) (pss_one (ps_ret (pe_lst pa_nil))) pss_nil)
  (pss_cons (ps_if (pt_cmpR op_lt (pe_ix (r := rIx K) ix_seq (pv 0) (pe_un un_neg pe_int) (fun _ _ => rfl)) pe_int (nomark _)) (pss_one (ps_set (i := 1) nd rfl (Or.inr rfl) (pe_un un_neg (pv 1)))) pss_nil)
  (pss_one (ps_ret (pe_lc (own := [("number", 2)]) (g := gName 2) (tt := tYes) rfl nd (pi_listK (K := K) rfl (pv 0)) (blkOk_by (own := [("number", 2)]) (N := n_primitive_part) (sc := (defScope s_primitive_part)) (by decide +kernel)) (fun _ _ _ _ _ => (pg_name (i := 2) nd rfl (Or.inl rfl))) (fun _ _ _ _ _ => pts_nil) (fun _ _ _ _ _ => (pe_op (op_fdivR hp.blk) (pv 2) (pv 1)))))))))), ?_⟩
  try dsimp only [cxOf, L2.Cx.nox, L2.Cx.wish, L2.Cx.blk]
  rintro ds w R ⟨n, ns, rfl, hn, hs, hl, q⟩
  repeat' walk_at "dl"
  refine sd_forI ?_
  repeat' walk_at "dl"
  refine ⟨fun i ρ' w' => ∃ o : Option Dat, ρ' = [some (dI ns), some (.int (contN ns i)), o] ∧ w' = w, ⟨none, rfl, rfl⟩, ?_, ?_⟩
  · rintro i ρ' w' hi ⟨o, rfl, rfl⟩
    repeat' walk_at "dl"
    refine ⟨n, _, _, rfl, hn, bt_contN hs i, hs i, ?_⟩
    repeat' walk_at "dl"
  rintro ρ' w' ⟨o, rfl, rfl⟩
  have hc0 : (contN ns ns.length : Int) = cont ns := rfl
  repeat' walk_at "dl"
  · refine xd_lstE ?_
    have e : prim ns = [] := if_pos (by omega)
    rw [e] at q
    exact q
  have h0 : 0 < ns.length := Nat.pos_of_ne_zero fun z => by
    have : cont ns = 0 := by
      show contN ns ns.length = 0
      rw [z]; rfl
    omega
  have hcn : cont ns ≠ 0 := by omega
  have e : prim ns = ns.map fun x => x.fdiv (sgl ns) := if_neg hcn
  rw [e] at q
  have hsn := Mat.sgl_ne hcn
  have hsd : sgl ns = if ns.getD (ns.length - 1) 0 < 0 then - (contN ns ns.length : Int) else contN ns ns.length := rfl
  repeat' walk_at "dl"
  all_goals (
    refine xd_lcLI (gw_name (by decide)) ?_
    repeat' walk_at "dl")
  · have hneg := ‹ns.getD (ns.length - 1) 0 < 0›
    rw [if_pos hneg] at hsd
    refine ⟨by omega, fun x => x.fdiv (sgl ns), fun a w' ha hw => ?_, q⟩
    repeat' walk_at "dl"
    rw [hsd]
  · have hneg := ‹0 ≤ ns.getD (ns.length - 1) 0›
    rw [if_neg (by omega)] at hsd
    refine ⟨by omega, fun x => x.fdiv (sgl ns), fun a w' ha hw => ?_, q⟩
    repeat' walk_at "dl"
    rw [hsd]
def fs_common : FS := fun ds w Q => ∃ (n : Nat) (ns : List Int), ds = [dI ns] ∧ n ≤ 60000000 ∧ Sz n ns ∧ ns.length ≤ 1000 ∧ Q (.int (cont ns)) w
theorem ok_law_common (G : Bltn mg) (hS : base.NoSeer) (hT : P.given.tree = none) {f : Addr} {fd : FuncData} (F : Fun K "_law_common" "_law_common" s_law_common f fd) : FnOk P wo K mg base CX0 41 f fd ["row"] (spOf K fs_common) := by
  have nd := sc_law_common.nd
  refine fn_ok F sc_law_common (fun ds w Q h => ?_) fun cdv A outer s H E hr => ?_
  · obtain ⟨_, _, rfl, _⟩ := h
    rfl
  have hp := plain_of (N := n_law_common) (wo := wo) (K := K) (mg := mg) (outer := outer) (H := H) (E := E) hS hT hr (by decide) rfl rfl
  refine ⟨_, (pss_cons (ps_set (i := 1) nd rfl (Or.inl rfl) pe_int)
  (pss_cons (ps_for PassesOwn.never rfl (pi_listK (K := K) rfl (pv 0)) (pg_name (i := 2) nd rfl (Or.inl rfl)) (pss_cons (ps_set (i := 3) nd rfl (Or.inl rfl) (pe_callB call_abs (by rfl) G.abs_ (by decide +kernel) (pa_cons (pv 2) pa_nil)))
  (pss_one (ps_while PassesOwn.never (pt_cmpR op_gt (pv 3) pe_int (nomark _)) (pss_cons (ps_set (i := 4) nd rfl (Or.inl rfl) (pe_op op_sub (pv 1) (pe_op op_mulX (pe_op (op_fdivR hp) (pv 1) (pv 3)) (pv 3))))
  (pss_cons (ps_set (i := 1) nd rfl (Or.inl rfl) (pv 3))
  (pss_one (ps_set (i := 3) nd rfl (Or.inl rfl) (pv 4)))))))))
  (pss_one (ps_ret (pv 1))))), ?_⟩
  try dsimp only [cxOf, L2.Cx.nox, L2.Cx.wish, L2.Cx.blk]
  rintro ds w R ⟨n, ns, rfl, hn, hs, hl, q⟩
  repeat' walk_at "dl"
  refine sd_forI ?_
  repeat' walk_at "dl"
  refine ⟨fun i ρ' w' => ∃ o o3 o4 : Option Dat, ρ' = [some (dI ns), some (.int (contN ns i)), o, o3, o4] ∧ w' = w, ⟨none, none, none, rfl, rfl⟩, ?_, ?_⟩
  · rintro i ρ' w' hi ⟨o, o3, o4, rfl, rfl⟩
    repeat' walk_at "dl"
    refine sd_while (J := fun m ρ' w'' => w'' = w' ∧ ∃ (a' b' : Nat) (o2 o4 : Option Dat), m = b' ∧ ρ' = [some (dI ns), some (.int a'), o2, some (.int b'), o4] ∧ Nat.gcd a' b' = contN ns (i + 1) ∧ Bt n a' ∧ Bt n b') (ns.getD i 0).natAbs ⟨rfl, contN ns i, _, some (.int (ns.getD i 0)), o4, rfl, by rw [abs_if]; rfl, rfl, bt_contN hs i, (hs i).abs⟩ ?_
    rintro m ρ' w' ⟨rfl, a', b', o2, o4, rfl, rfl, hg, ha', hb'⟩
    repeat' walk_at "dl"
    · refine mulB (n := n) (ha'.le ?_) hb' (by omega)
      rw [Int.fdiv_eq_ediv_of_nonneg _ (by omega), ← Int.natCast_ediv]
      exact Nat.div_le_self _ _
    · refine ⟨a' % m, Nat.mod_lt _ (by omega), rfl, m, a' % m, _, _, rfl, by rw [← gcd_next (by omega), Int.mul_comm (m : Int)]; rfl, ?_, hb', ?_⟩
      · rw [← hg, Nat.gcd_comm a' m, Nat.gcd_rec m a', Nat.gcd_comm]
      · exact ha'.le (Nat.mod_le _ _)
    · have hm : m = 0 := by omega
      subst hm
      rw [Nat.gcd_zero_right] at hg
      exact ⟨_, _, _, by rw [hg], rfl⟩
  rintro ρ' w' ⟨o, o3, o4, rfl, rfl⟩
  repeat' walk_at "dl"
  exact q
/-- a row with a number that is not 0 -/
def fs_lprim : FS := fun ds w Q => ∃ (n : Nat) (ns : List Int), ds = [dI ns] ∧ n ≤ 60000000 ∧ Sz n ns ∧ ns.length ≤ 1000 ∧ cont ns ≠ 0 ∧ Q (dI (prim ns)) w
theorem ok_law_primitive (G : Bltn mg) (hS : base.NoSeer) (hT : P.given.tree = none) (C_law_common : Cal P wo K mg base 41 "_law_common" ["row"] fs_common) {f : Addr} {fd : FuncData} (F : Fun K "_law_primitive" "_law_primitive" s_law_primitive f fd) : FnOk P wo K mg base CX0 42 f fd ["row"] (spOf K fs_lprim) := by
  have nd := sc_law_primitive.nd
  refine fn_ok F sc_law_primitive (fun ds w Q h => ?_) fun cdv A outer s H E hr => ?_
  · obtain ⟨_, _, rfl, _⟩ := h
    rfl
  have hp := plain_of (N := n_law_primitive) (wo := wo) (K := K) (mg := mg) (outer := outer) (H := H) (E := E) hS hT hr (by decide) rfl rfl
  refine ⟨_, (pss_cons (ps_set (i := 1) nd rfl (Or.inr rfl) (pe_calK C_law_common rfl rfl rfl rfl rfl (hr.mono (by decide)) (by rfl) (pa_cons (pv 0) pa_nil)))
  (pss_cons (ps_if (pt_cmpR op_lt (pe_ix (r := rIx K) ix_seq (pv 0) (pe_un un_neg pe_int) (fun _ _ => rfl)) pe_int (nomark _)) (pss_one (ps_set (i := 1) nd rfl (Or.inr rfl) (pe_un un_neg (pv 1)))) pss_nil)
  (pss_one (ps_ret (pe_lc (own := [("number", 2)]) (g := gName 2) (tt := tYes) rfl nd (pi_listK (K := K) rfl (pv 0)) (blkOk_by (own := [("number", 2)]) (N := n_law_primitive) (sc := (defScope s_law_primitive)) (by decide +kernel)) (fun _ _ _ _ _ => (pg_name (i := 2) nd rfl (Or.inl rfl))) (fun _ _ _ _ _ => pts_nil) (fun _ _ _ _ _ => (pe_op (op_fdivR hp.blk) (pv 2) (pv 1)))))))), ?_⟩
  try dsimp only [cxOf, L2.Cx.nox, L2.Cx.wish, L2.Cx.blk]
  rintro ds w R ⟨n, ns, rfl, hn, hs, hl, hcn, q⟩
  have h0 : 0 < ns.length := Nat.pos_of_ne_zero fun z => hcn (by
    show contN ns ns.length = 0
    rw [z]; rfl)
  have e : prim ns = ns.map fun x => x.fdiv (sgl ns) := if_neg hcn
  rw [e] at q
  have hsn := Mat.sgl_ne hcn
  have hsd : sgl ns = if ns.getD (ns.length - 1) 0 < 0 then - (cont ns : Int) else cont ns := rfl
  repeat' walk_at "dl"
  refine ⟨n, ns, rfl, hn, hs, hl, ?_⟩
  repeat' walk_at "dl"
  all_goals (
    refine xd_lcLI (gw_name (by decide)) ?_
    repeat' walk_at "dl")
  · have hneg := ‹ns.getD (ns.length - 1) 0 < 0›
    rw [if_pos hneg] at hsd
    refine ⟨by omega, fun x => x.fdiv (sgl ns), fun a w' ha hw => ?_, q⟩
    repeat' walk_at "dl"
    rw [hsd]
  · have hneg := ‹0 ≤ ns.getD (ns.length - 1) 0›
    rw [if_neg (by omega)] at hsd
    refine ⟨by omega, fun x => x.fdiv (sgl ns), fun a w' ha hw => ?_, q⟩
    repeat' walk_at "dl"
    rw [hsd]
def fs_lminus : FS := fun ds w Q => ∃ a b : List Int, ds = [dI a, dI b] ∧ a.length ≤ 1000 ∧ b.length ≤ 1000 ∧ Q (dI (subP a b)) w
theorem ok_law_minus (G : Bltn mg) {f : Addr} {fd : FuncData} (F : Fun K "_law_minus" "_law_minus" s_law_minus f fd) : FnOk P wo K mg base CX0 42 f fd ["one", "other"] (spOf K fs_lminus) := by
  have nd := sc_law_minus.nd
  refine fn_ok F sc_law_minus (fun ds w Q h => ?_) fun cdv A outer s H E hr => ?_
  · obtain ⟨_, _, rfl, _⟩ := h
    rfl
  refine ⟨_, (pss_cons (ps_set (i := 2) nd rfl (Or.inl rfl) (pe_lst pa_nil))
  (pss_cons (ps_for PassesOwn.never rfl (pi_range1 (by rfl) G.range_ (pa_cons (pe_callB (call_max2 rfl) (by rfl) G.max_ (by decide +kernel) (pa_cons (pe_callB (r := rLenK K) call_len_seq (by rfl) G.len_ PySem.boot_len (pa_cons (pv 0) pa_nil)) (pa_cons (pe_callB (r := rLenK K) call_len_seq (by rfl) G.len_ PySem.boot_len (pa_cons (pv 1) pa_nil)) pa_nil))) pa_nil)) (pg_name (i := 3) nd rfl (Or.inl rfl)) (pss_cons (ps_set (i := 4) nd rfl (Or.inl rfl) (pe_ifExp (pt_cmpR op_lt (pv 3) (pe_callB (r := rLenK K) call_len_seq (by rfl) G.len_ PySem.boot_len (pa_cons (pv 0) pa_nil)) (nomark _)) (pe_ix (r := rIx K) ix_seq (pv 0) (pv 3) (fun _ _ => rfl)) pe_int))
  (pss_cons (ps_set (i := 5) nd rfl (Or.inl rfl) (pe_ifExp (pt_cmpR op_lt (pv 3) (pe_callB (r := rLenK K) call_len_seq (by rfl) G.len_ PySem.boot_len (pa_cons (pv 1) pa_nil)) (nomark _)) (pe_ix (r := rIx K) ix_seq (pv 1) (pv 3) (fun _ _ => rfl)) pe_int))
  (pss_one (ps_expr (pe_bm PySem.F.plainAttrs_list PySem.F.slot_list_append PySem.F.type_list_append mt_append (pv 2) (pa_cons (pe_op op_sub (pv 4) (pv 5)) pa_nil)))))))
  (pss_cons (ps_while PassesOwn.never (PW.pt (pw_and (pt_cmpR op_gt (pe_callB (r := rLenK K) call_len_seq (by rfl) G.len_ PySem.boot_len (pa_cons (pv 2) pa_nil)) pe_int (nomark _)) (pw_and1 (pt_cmpR op_eq (pe_ix (r := rIx K) ix_seq (pv 2) (pe_un un_neg pe_int) (fun _ _ => rfl)) pe_int (nomark _))))) (pss_one (ps_expr (pe_bm0 PySem.F.plainAttrs_list PySem.F.slot_list_pop PySem.F.type_list_pop mt_pop (pv 2)))))
  (pss_one (ps_ret (pv 2)))))), ?_⟩
  try dsimp only [cxOf, L2.Cx.nox, L2.Cx.wish, L2.Cx.blk]
  rintro ds w R ⟨a, b, rfl, ha, hb, q⟩
  refine sd_rf ?_
  repeat' walk_at "dl"
  refine xd_lst ?_
  repeat' walk_at "dl"
  refine ⟨by decide, fun p hp => ?_⟩
  repeat' walk_at "dl"
  refine sd_forR1 ?_
  repeat' walk_at "dl"
  rw [mx2]
  refine ⟨by omega, by omega, fun i ρ' w' => ∃ o3 o4 o5 : Option Dat, ρ' = [some (dI a), some (dI b), some (.obj p), o3, o4, o5] ∧ w' = w.put p ((tab i fun k => a.getD k 0 - b.getD k 0).map .int), ⟨none, none, none, rfl, rfl⟩, ?_, ?_⟩
  · rintro i ρ' w' hi ⟨o3, o4, o5, rfl, rfl⟩
    have hl : (tab i fun k => a.getD k 0 - b.getD k 0).length = i := tab_length
    have e : ∀ x y : Int, x = a.getD i 0 → y = b.getD i 0 → ((tab i fun k => a.getD k 0 - b.getD k 0) ++ [x - y]) = tab (i + 1) fun k => a.getD k 0 - b.getD k 0 := fun x y h1 h2 => by
      unfold tab
      rw [List.range_succ, List.map_append, h1, h2]
      rfl
    repeat' walk_at "dl"
    · exact ⟨_, _, _, rfl, by rw [Wd.put_put, e _ _ (by rw [Int.toNat_natCast]) (by rw [Int.toNat_natCast])]⟩
    · exact ⟨_, _, _, rfl, by rw [Wd.put_put, e _ _ (by rw [Int.toNat_natCast]) (Mat.getD_over (by omega)).symm]⟩
    · exact ⟨_, _, _, rfl, by rw [Wd.put_put, e _ _ (Mat.getD_over (by omega)).symm (by rw [Int.toNat_natCast])]⟩
    · exact ⟨_, _, _, rfl, by rw [Wd.put_put, e _ _ (Mat.getD_over (by omega)).symm (Mat.getD_over (by omega)).symm]⟩
  rintro ρ' w' ⟨o3, o4, o5, rfl, rfl⟩
  rw [Int.toNat_natCast]
  generalize hL : (tab (max a.length b.length) fun k => a.getD k 0 - b.getD k 0) = L
  have hLl : L.length = max a.length b.length := by rw [← hL, tab_length]
  have hq : subP a b = trimP L := by rw [← hL]; rfl
  rw [hq] at q
  repeat' walk_at "dl"
  refine sd_while (J := fun m ρ' w' => m ≤ L.length ∧ ρ' = [some (dI a), some (dI b), some (.obj p), o3, o4, o5] ∧ w' = w.put p ((L.take m).map .int) ∧ trimP L = L.take (tl L m)) L.length ⟨Nat.le_refl _, rfl, by rw [List.take_length], rfl⟩ ?_
  rintro m ρ' w' ⟨hm, rfl, rfl, ht⟩
  have hml : (L.take m).length = m := by rw [List.length_take]; omega
  repeat' walk_at "dl"
  · have e := ‹(L.take m).getD ((L.take m).length - 1) 0 = 0›
    rw [hml, Mat.take_at, if_pos (by omega)] at e
    refine ⟨m - 1, by omega, by omega, rfl, ?_, by rw [ht, tl_step e (by omega)]⟩
    rw [Wd.put_put, List.dropLast_eq_take, hml, List.take_take, Nat.min_eq_left (by omega)]
  · have e := ‹¬ (L.take m).getD ((L.take m).length - 1) 0 = 0›
    rw [hml, Mat.take_at, if_pos (by omega)] at e
    rw [ht, tl_stop (.inl e)] at q
    exact RF.new hp q
  · have hm0 : m = 0 := by omega
    subst hm0
    rw [ht] at q
    exact RF.new hp q
def fs_isint : FS := fun ds w Q => ∃ i : Int, ds = [.int i] ∧ Q (.bl true) w
theorem ok_law_is_int (G : Bltn mg) {f : Addr} {fd : FuncData} (F : Fun K "_law_is_int" "_law_is_int" s_law_is_int f fd) : FnOk P wo K mg base CX0 41 f fd ["thing"] (spOf K fs_isint) := by
  have nd := sc_law_is_int.nd
  refine fn_ok F sc_law_is_int (fun ds w Q h => ?_) fun cdv A outer s H E hr => ?_
  · obtain ⟨_, rfl, _⟩ := h
    rfl
  refine ⟨_, (pss_one (ps_ret (pe_and (pe_callB (r := rIsi K) call_isi (by rfl) G.isinstance_ (by decide +kernel) (pa_cons (pv 0) (pa_cons (pe_bltn (v := .ty "int") (by rfl) G.int_ (by decide +kernel) rfl) pa_nil))) (pe_one (pe_not (pe_callB (r := rIsi K) call_isi (by rfl) G.isinstance_ (by decide +kernel) (pa_cons (pv 0) (pa_cons (pe_bltn (v := .ty "bool") (by rfl) G.bool_ (by decide +kernel) rfl) pa_nil)))))))), ?_⟩
  try dsimp only [cxOf, L2.Cx.nox, L2.Cx.wish, L2.Cx.blk]
  rintro ds w R ⟨i, rfl, q⟩
  repeat' walk_at "dl"
  exact q
def fs_ispoly : FS := fun ds w Q => ∃ ns : List Int, ds = [dI ns] ∧ ns.length ≤ 1000 ∧ Tr ns ∧ Q (.bl true) w
theorem ok_law_is_poly (G : Bltn mg) (C_law_is_int : Cal P wo K mg base 41 "_law_is_int" ["thing"] fs_isint) {f : Addr} {fd : FuncData} (F : Fun K "_law_is_poly" "_law_is_poly" s_law_is_poly f fd) : FnOk P wo K mg base CX0 42 f fd ["thing"] (spOf K fs_ispoly) := by
  have nd := sc_law_is_poly.nd
  refine fn_ok F sc_law_is_poly (fun ds w Q h => ?_) fun cdv A outer s H E hr => ?_
  · obtain ⟨_, rfl, _⟩ := h
    rfl
  refine ⟨_, (pss_cons (ps_if (PW.pt (pw_or (pt_not (pt_val (pe_callB (r := rIsi K) call_isi (by rfl) G.isinstance_ (by decide +kernel) (pa_cons (pv 0) (pa_cons (pe_bltn (v := .ty "list") (by rfl) G.list_ (by decide +kernel) rfl) pa_nil))))) (pw_or1 (pt_not (pt_val (pe_callB (r := rAll K) (cr_all rfl) (by rfl) G.all_ (by decide +kernel) (pa_cons (pe_lc (own := [("number", 1)]) (g := gName 1) (tt := tYes) rfl nd (pi_listK (K := K) rfl (pv 0)) (blkOk_by (own := [("number", 1)]) (N := n_law_is_poly) (sc := (defScope s_law_is_poly)) (by decide +kernel)) (fun _ _ _ _ _ => (pg_name (i := 1) nd rfl (Or.inl rfl))) (fun _ _ _ _ _ => pts_nil) (fun _ _ _ _ _ => (pe_calK C_law_is_int rfl rfl rfl rfl rfl (hr.mono (by decide)) (by rfl) (pa_cons (pv 1) pa_nil)))) pa_nil))))))) (pss_one (ps_ret pe_bl)) pss_nil)
  (pss_one (ps_ret (pe_or (pe_cmpR op_eq (pe_callB (r := rLenK K) call_len_seq (by rfl) G.len_ PySem.boot_len (pa_cons (pv 0) pa_nil)) pe_int (nomark _)) (pe_one (pe_cmpR op_ne (pe_ix (r := rIx K) ix_seq (pv 0) (pe_un un_neg pe_int) (fun _ _ => rfl)) pe_int (nomark _))))))), ?_⟩
  try dsimp only [cxOf, L2.Cx.nox, L2.Cx.wish, L2.Cx.blk]
  rintro ds w R ⟨ns, rfl, hl, ht, q⟩
  repeat' walk_at "dl"
  refine xd_lcLG (gw_name (by decide)) ?_
  repeat' walk_at "dl"
  refine ⟨_, .lst _, by rw [List.length_map]; omega, fun _ => .bl true, fun i x w' hx hw => ?_, ?_⟩
  · rw [List.getElem?_map] at hx
    obtain ⟨a, _, rfl⟩ := Option.map_eq_some_iff.mp hx
    repeat' walk_at "dl"
    exact ⟨a, rfl, rfl, rfl⟩
  repeat' walk_at "dl"
  refine cd_allI (bs := ns.map fun _ => true) (by rw [List.map_map, List.map_map]; rfl) (.lst _) ?_
  have e : (ns.map fun _ => true).all id = true := by simp
  rw [e]
  repeat' walk_at "dl"
  · exact q
  · rw [decide_eq_false (ht (by omega))]
    exact q
end
end K67
set_option Elab.async false
set_option linter.all false
set_option maxRecDepth 100000
set_option maxHeartbeats 4000000
namespace K67
open PySem PySem.Spec PyProof.Rows L2 DL
open Mat (tab tab_length tab_at trimP subP mulP cont contN prim sgl tl T Tr sm pst PL GG Fn)
local macro_rules | `(tactic| walk_at "wd") => `(tactic| first
  | exact Wd.put_same
  | exact Wd.at2 (by assumption)
  | assumption
  | exact Wd.put_of (by assumption) (by assumption)
  | exact Wd.put_of (by assumption) (Wd.put_of (by assumption) (by assumption))
  | fail "no world")
local macro_rules | `(tactic| walk_at "sd") => `(tactic| first
  | with_reducible refine sd_seq ?_
  | with_reducible refine sd_set ?_
  | with_reducible refine sd_asg ?_
  | with_reducible refine gd_name ?_
  | with_reducible refine sd_ret ?_
  | with_reducible refine sd_drop ?_
  | with_reducible refine sd_if ?_
  | with_reducible refine sd_par ?_
  | with_reducible refine sd_next ?_
  | with_reducible refine sd_break ?_
  | with_reducible refine sd_aug rfl ?_
  | fail "no step")
local macro_rules | `(tactic| walk_at "ix") => `(tactic| (with_reducible show OD _ (rIx _) _ _ _ _) <;> first
  | refine od_ix (.tup _) rfl ?_
  | refine od_ix (.lst [_, _, _, _]) rfl ?_
  | (refine od_ix (ds := ?dsx) (.obj ?hx) ?hy ?_; (case hx => walk_at "wd"); (case hy => exact rfl))
  | (refine od_ixLast (.lst _) ?_ ?_; (focus omega))
  | (refine od_ixLast (ns := ?nsx) (.obj ?hx) ?ha ?_; (case hx => walk_at "wd"); (case ha => omega))
  | (refine od_ixI (.lst _) ?_ ?_ ?_; (focus omega); (focus omega))
  | (refine od_ixM (.lst _) ?_ ?_ ?_; (focus omega); (focus omega))
  | (refine od_ixI (ns := ?nsx) (.obj ?hx) ?ha ?hb ?_; (case hx => walk_at "wd"); (case ha => omega); (case hb => omega))
  | (refine od_ixM (rows := ?nsx) (.obj ?hx) ?ha ?hb ?_; (case hx => walk_at "wd"); (case ha => omega); (case hb => omega))
  | fail "no index")
local macro_rules | `(tactic| walk_at "dl") => `(tactic| first
  | walk_at "sd"
  | with_reducible refine xd_int ?_
  | with_reducible refine xd_bl ?_
  | with_reducible refine xd_non ?_
  | with_reducible refine xd_str ?_
  | with_reducible refine xd_ty ?_
  | with_reducible refine xd_op ?_
  | with_reducible refine xd_un ?_
  | with_reducible refine xd_if ?_
  | with_reducible refine xd_tup ?_
  | with_reducible refine xd_cb ?_
  | with_reducible refine xd_call ?_
  | with_reducible refine xd_bm ?_
  | with_reducible refine xd_bm0 ?_
  | (refine And.intro (ty_list (ds := ?dsx) (.obj ?hx)) ?_; (case hx => walk_at "wd"))
  | (refine md_appI (ns := ?nsx) ?hx ?ha ?_; (case hx => walk_at "wd"); (case ha => omega))
  | (refine md_appM (rows := ?nsx) ?hx ?ha ?_; (case hx => walk_at "wd"); (case ha => omega))
  | (refine md_popI (ns := ?nsx) ?hx ?ha ?_; (case hx => walk_at "wd"); (case ha => omega))
  | with_reducible refine ad_nil ?_
  | with_reducible refine ad_cons ?_
  | with_reducible refine td_test ?_
  | with_reducible refine td_B ?_
  | with_reducible refine td_and ?_
  | with_reducible refine td_or ?_
  | with_reducible refine td_not ?_
  | with_reducible refine xd_andV ?_
  | with_reducible refine xd_orV ?_
  | with_reducible refine xd_notV ?_
  | with_reducible refine xd_sliceF ?_
  | with_reducible refine pd_none ?_
  | with_reducible refine pd_some ?_
  | with_reducible refine od_add ?_
  | with_reducible refine od_sub ?_
  | (with_reducible refine od_fdivR ?_ ?_; (focus omega))
  | (with_reducible refine od_modN ?_ ?_; (focus omega))
  | (with_reducible refine od_mulX ?_ ?_; (focus (refine mulB (by assumption) (by assumption) (by omega))))
  | with_reducible refine od_mulX ?_ ?_
  | (with_reducible refine od_mul ?_ ?_; (focus (first | exact Or.inl (by omega) | exact Or.inr (by omega))))
  | with_reducible refine od_lt ?_
  | with_reducible refine od_le ?_
  | with_reducible refine od_gt ?_
  | with_reducible refine od_ge ?_
  | with_reducible refine od_eqI ?_
  | with_reducible refine od_neI ?_
  | (refine od_eqL (.lst _) (.lst _) ?_; (focus skip))
  | (refine od_neL (.lst _) (.lst _) ?_; (focus skip))
  | refine od_isL ?_
  | with_reducible refine ud_neg ?_
  | with_reducible refine id_I ?_
  | refine cd_isi (b := true) (.int _) (by with_unfolding_all rfl) ?_
  | refine cd_isi (b := false) (.int _) (by with_unfolding_all rfl) ?_
  | refine cd_isi (b := true) (.lst _) (by with_unfolding_all rfl) ?_
  | with_reducible refine cd_max2 ?_
  | with_reducible refine cd_abs ?_
  | with_reducible refine cd_int1 ?_
  | with_reducible refine cd_intB ?_
  | refine cd_lenI (.lst _) ?_
  | refine cd_lenM (.lst _) ?_
  | (refine cd_lenI (ns := ?nsx) (.obj ?hx) ?_; (case hx => walk_at "wd"))
  | (refine cd_lenM (rows := ?nsx) (.obj ?hx) ?_; (case hx => walk_at "wd"))
  | refine cd_listF (.lst _) ?_
  | (refine cd_listF (ds := ?dsx) (.obj ?hx) ?_; (case hx => walk_at "wd"))
  | (refine od_catI (.lst _) (.lst _) ?_ ?_; (focus (first | omega | (simp only [List.length_append, List.length_map, tab_length]; omega))))
  | walk_at "ix"
  | with_reducible refine xd_var rfl ?_
  | with_reducible refine And.intro rfl ?_
  | with_reducible refine ⟨_, rfl, ?_⟩
  | with_reducible refine ⟨_, _, rfl, ?_⟩
  | (with_reducible refine And.intro (fun hb => ?_) (fun hb => ?_) <;> (try (exact absurd hb (by decide))) <;> (try simp only [decide_eq_true_eq, decide_eq_false_iff_not, Bool.not_eq_true', Bool.not_eq_false', Bool.true_eq_false, Bool.false_eq_true, Bool.not_eq_true, Bool.not_eq_false, Int.not_lt, Int.not_le] at hb))
  | with_reducible exact rfl
  | fail "no step")
theorem sz_pst {n m : Nat} {rest b : List Int} (h : Sz n rest) (h' : Sz m b) : Sz (n + (m + 1)) (pst rest b) := fun k => by
  rw [Mat.pst_at]
  have h1 : Bt (n + m) (b.getD (b.length - 1) 0 * rest.getD k 0) := ((h' _).mul (h k)).mono (by omega)
  have h2 : Bt (n + m) (rest.getD (rest.length - 1) 0 * (if rest.length - b.length ≤ k then b.getD (k - (rest.length - b.length)) 0 else 0)) := by
    refine (h _).mul ?_
    split
    · exact h' _
    · exact Bt.zero
  exact h1.sub h2
section
variable {P : Program} {wo : World} {K : PySem.W.Frag} {mg : Str → Option Value} {base : Heap}
def fs_prem : FS := fun ds w Q => ∃ (n m : Nat) (a b : List Int), ds = [dI a, dI b] ∧ Sz n a ∧ Sz m b ∧ Tr a ∧ Tr b ∧ 0 < b.length ∧ a.length ≤ 1000 ∧ b.length ≤ 1000 ∧ n + (a.length + 1 - b.length) * (m + 1) + m ≤ 60000000 ∧
  ∀ r : List Int, Tr r → r.length < b.length → (a.length < b.length → r = a) → Sz (n + (a.length + 1 - b.length) * (m + 1)) r → (∃ (k : Int) (q : Mat.PS), k ≠ 0 ∧ Fn q ∧ T r = Mat.PS.cst k * T a - q * T b) → Q (dI r) w
theorem ok_pseudo_remainder (G : Bltn mg) (C_poly_minus : Cal P wo K mg base 42 "poly_minus" ["one", "other"] fs_minus) {f : Addr} {fd : FuncData} (F : Fun K "pseudo_remainder" "pseudo_remainder" s_pseudo_remainder f fd) : FnOk P wo K mg base CX0 43 f fd ["one", "other"] (spOf K fs_prem) := by
  have nd := sc_pseudo_remainder.nd
  refine fn_ok F sc_pseudo_remainder (fun ds w Q h => ?_) fun cdv A outer s H E hr => ?_
  · obtain ⟨_, _, _, _, rfl, _⟩ := h
    rfl
  refine ⟨_, (pss_cons (ps_set (i := 2) nd rfl (Or.inr rfl) (pe_callTy (r := rLstK K) call_list_of (by rfl) G.list_ (by decide +kernel) (pa_cons (pv 0) pa_nil)))
  (pss_cons (ps_while PassesOwn.never (pt_cmpR op_ge (pe_callB (r := rLenK K) call_len_seq (by rfl) G.len_ PySem.boot_len (pa_cons (pv 2) pa_nil)) (pe_callB (r := rLenK K) call_len_seq (by rfl) G.len_ PySem.boot_len (pa_cons (pv 1) pa_nil)) (nomark _)) (pss_cons (ps_setLc (i := 3) (own := [("k", 6)]) (g := gName 6) (tt := tYes) rfl nd rfl rfl (sw_true rfl rfl rfl (by decide +kernel)) (pi_range1 (by rfl) G.range_ (pa_cons (pe_op op_sub (pe_callB (r := rLenK K) call_len_seq (by rfl) G.len_ PySem.boot_len (pa_cons (pv 2) pa_nil)) (pe_callB (r := rLenK K) call_len_seq (by rfl) G.len_ PySem.boot_len (pa_cons (pv 1) pa_nil))) pa_nil)) (blkOk_by (own := [("k", 6)]) (N := n_pseudo_remainder) (sc := (defScope s_pseudo_remainder)) (by decide +kernel)) (fun _ _ _ _ _ => (pg_name (i := 6) nd rfl (Or.inl rfl))) (fun _ _ _ _ _ => pts_nil) (fun _ _ _ _ _ => pe_int))
  (pss_cons (ps_setLc (i := 4) (own := [("number", 7)]) (g := gName 7) (tt := tYes) rfl nd rfl rfl (sw_true rfl rfl rfl (by decide +kernel)) (pi_listK (K := K) rfl (pv 2)) (blkOk_by (own := [("number", 7)]) (N := n_pseudo_remainder) (sc := (defScope s_pseudo_remainder)) (by decide +kernel)) (fun _ _ _ _ _ => (pg_name (i := 7) nd rfl (Or.inl rfl))) (fun _ _ _ _ _ => pts_nil) (fun _ _ _ _ _ => (pe_op op_mulX (pv 7) (pe_ix (r := rIx K) ix_seq (pv 1) (pe_un un_neg pe_int) (fun _ _ => rfl)))))
  (pss_cons (ps_setLc (i := 5) (own := [("number", 7)]) (g := gName 7) (tt := tYes) rfl nd rfl rfl (sw_true rfl rfl rfl (by decide +kernel)) (pi_listK (K := K) rfl (pe_op op_cat (pv 3) (pe_callTy (r := rLstK K) call_list_of (by rfl) G.list_ (by decide +kernel) (pa_cons (pv 1) pa_nil)))) (blkOk_by (own := [("number", 7)]) (N := n_pseudo_remainder) (sc := (defScope s_pseudo_remainder)) (by decide +kernel)) (fun _ _ _ _ _ => (pg_name (i := 7) nd rfl (Or.inl rfl))) (fun _ _ _ _ _ => pts_nil) (fun _ _ _ _ _ => (pe_op op_mulX (pv 7) (pe_ix (r := rIx K) ix_seq (pv 2) (pe_un un_neg pe_int) (fun _ _ => rfl)))))
  (pss_one (ps_set (i := 2) nd rfl (Or.inr rfl) (pe_calK C_poly_minus rfl rfl rfl rfl rfl (hr.mono (by decide)) (by rfl) (pa_cons (pv 4) (pa_cons (pv 5) pa_nil)))))))))
  (pss_one (ps_ret (pv 2))))), ?_⟩
  try dsimp only [cxOf, L2.Cx.nox, L2.Cx.wish, L2.Cx.blk]
  rintro ds w R ⟨n, m, a, b, rfl, hsa, hsb, hta, htb, hb0, hla, hlb, hsz, q⟩
  repeat' walk_at "dl"
  refine sd_while (J := fun l ρ' w' => w' = w ∧ ∃ (rest : List Int) (st : Nat) (o3 o4 o5 o6 o7 : Option Dat), l = rest.length ∧ ρ' = [some (dI a), some (dI b), some (dI rest), o3, o4, o5, o6, o7] ∧ Tr rest ∧ st + rest.length ≤ a.length ∧ st ≤ a.length + 1 - b.length ∧ Sz (n + st * (m + 1)) rest ∧ (a.length < b.length → rest = a) ∧
    ∃ (k : Int) (q : Mat.PS), k ≠ 0 ∧ Fn q ∧ T rest = Mat.PS.cst k * T a - q * T b) a.length ⟨rfl, a, 0, none, none, none, none, none, rfl, rfl, hta, by omega, by omega, by rw [Nat.zero_mul]; exact hsa, fun _ => rfl, 1, 0, by decide, .zero, by rw [Mat.PS.cst_one]; grind⟩ ?_
  rintro l ρ' w' ⟨rfl, rest, st, o3, o4, o5, o6, o7, rfl, rfl, htr, hst, hst2, hsr, heq, k, qq, hk, hqq, hT⟩
  repeat' walk_at "dl"
  · refine xd_lcR1I (gw_name (by decide)) ?_
    repeat' walk_at "dl"
    refine ⟨_, fun _ => 0, rfl, by omega, by omega, fun i w' hi hs => ?_, ?_⟩
    · repeat' walk_at "dl"
    repeat' walk_at "dl"
    have hrl : b.length ≤ rest.length := by omega
    have hs1 : st + 1 ≤ a.length + 1 - b.length := by omega
    have hmul : (st + 1) * (m + 1) ≤ (a.length + 1 - b.length) * (m + 1) := Nat.mul_le_mul_right _ hs1
    rw [Nat.add_mul, Nat.one_mul] at hmul
    have hnat : ((rest.length : Int) - (b.length : Int)).toNat = rest.length - b.length := by omega
    refine xd_lcLI (gw_name (by decide)) ?_
    repeat' walk_at "dl"
    refine ⟨by omega, fun x => x * b.getD (b.length - 1) 0, fun x w2 hx hw => ?_, ?_⟩
    · repeat' walk_at "dl"
      exact mulB (hsr.mem hx) (hsb _) (by omega)
    repeat' walk_at "dl"
    refine xd_lcLI (gw_name (by decide)) ?_
    repeat' walk_at "dl"
    have hsp : Sz m ((tab ((rest.length : Int) - (b.length : Int)).toNat fun _ => 0) ++ b) := fun k => by
      rw [Mat.front_at]
      split
      · exact hsb _
      · exact Bt.zero
    refine ⟨by rw [List.length_append, tab_length]; omega, fun x => x * rest.getD (rest.length - 1) 0, fun x w2 hx hw => ?_, ?_⟩
    · repeat' walk_at "dl"
      exact mulB (hsp.mem hx) (hsr _) (by omega)
    repeat' walk_at "dl"
    refine ⟨_, _, rfl, by rw [List.length_map]; omega, by rw [List.length_map, List.length_append, tab_length]; omega, ?_⟩
    repeat' walk_at "dl"
    rw [hnat]
    have hlen := Mat.pst_len hb0 hrl
    refine ⟨(pst rest b).length, hlen, rfl, pst rest b, st + 1, _, _, _, _, _, rfl, rfl, Mat.pst_Tr, by omega, hs1, ?_, fun h => by omega, b.getD (b.length - 1) 0 * k, Mat.PS.cst (b.getD (b.length - 1) 0) * qq + Mat.PS.cst (rest.getD (rest.length - 1) 0) * Mat.sh (rest.length - b.length) 1, Int.mul_ne_zero (htb hb0) hk, ?_, ?_⟩
    · have := sz_pst hsr hsb
      exact this.mono (by rw [Nat.add_mul, Nat.one_mul]; omega)
    · exact (Fn.cst.mul hqq).add (Fn.cst.mul (Mat.sh_fn .one))
    · rw [Mat.pst_T, hT, Mat.PS.cst_mul]
      grind
  · exact q rest htr (by omega) heq (hsr.mono (by
      have := Nat.mul_le_mul_right (m + 1) hst2
      omega)) ⟨k, qq, hk, hqq, hT⟩
/-- what a greatest common divisor is, for this text -/
def fs_pgcd : FS := fun ds w Q => ∃ (a b : List Int), ds = [dI a, dI b] ∧ Sz 64 a ∧ Sz 64 b ∧ Tr a ∧ Tr b ∧ a.length ≤ 8 ∧ b.length ≤ 8 ∧ (0 < a.length ∨ 0 < b.length) ∧
  ∀ g : List Int, PL g → g.length ≤ 8 → Sz 300000 g → (a = [] → g = prim b) → (b = [] → g = prim a) → GG (T g) (T a) (T b) → Q (dI g) w
theorem sz_prim {n : Nat} {l : List Int} (h : Sz n l) : Sz n (prim l) := fun k => by
  by_cases hc : cont l = 0
  · have : prim l = [] := if_pos hc
    rw [this]
    exact Bt.zero
  · refine (h k).le ?_
    rw [Mat.prim_at hc k, Int.natAbs_mul]
    have := Mat.sgl_ne hc
    exact Nat.le_mul_of_pos_left _ (by omega)
theorem prim_cases {l : List Int} (h : Tr l) : prim l = [] ∨ PL (prim l) := by
  by_cases h0 : 0 < l.length
  · exact .inr (Mat.prim_PL h h0)
  · refine .inl (if_pos ?_)
    show contN l l.length = 0
    rw [show l.length = 0 by omega]; rfl
/-- the sizes of two rows of the chain -/
def Szs (f s : List Int) : Prop := (s.length < f.length ∧ ∃ e, Sz e f ∧ Sz e s ∧ e + 1 ≤ 130 * 3 ^ (8 - f.length)) ∨ (Sz 64 f ∧ Sz 64 s)
theorem Szs.one {f s : List Int} (h : Szs f s) (hf : f.length ≤ 8) (hs : s.length ≤ 8) (h0 : 0 < s.length) : ∃ e, Sz e f ∧ Sz e s ∧ e + (f.length + 1 - s.length) * (e + 1) + e ≤ 60000000 ∧ ∀ r, Sz (e + (f.length + 1 - s.length) * (e + 1)) r → r.length < s.length → Szs s r := by
  have big : 130 * 3 ^ (8 - f.length) ≤ 130 * 3 ^ 8 := Nat.mul_le_mul_left _ (Nat.pow_le_pow_right (by decide) (by omega))
  have bigv : 130 * 3 ^ 8 = 852930 := by decide
  have main : ∀ e, Sz e f → Sz e s → s.length < f.length → e + 1 ≤ 130 * 3 ^ (8 - f.length) → ∃ e, Sz e f ∧ Sz e s ∧ e + (f.length + 1 - s.length) * (e + 1) + e ≤ 60000000 ∧ ∀ r, Sz (e + (f.length + 1 - s.length) * (e + 1)) r → r.length < s.length → Szs s r := by
    intro e h1 h2 hl he
    have m1 : (f.length + 1 - s.length) * (e + 1) ≤ 9 * (e + 1) := Nat.mul_le_mul_right _ (by omega)
    refine ⟨e, h1, h2, by omega, fun r hr hrl => .inl ⟨hrl, e + (f.length + 1 - s.length) * (e + 1), h2.mono (by omega), hr, ?_⟩⟩
    have e1 : e + (f.length + 1 - s.length) * (e + 1) + 1 = (f.length - s.length + 2) * (e + 1) := by
      rw [show f.length - s.length + 2 = (f.length + 1 - s.length) + 1 by omega, Nat.add_mul _ 1, Nat.one_mul]
      omega
    rw [e1]
    have e2 := Mat.three_pow (f.length - s.length) (by omega)
    have e3 : 130 * 3 ^ (8 - s.length) = 3 ^ (f.length - s.length) * (130 * 3 ^ (8 - f.length)) := by
      rw [show 8 - s.length = (f.length - s.length) + (8 - f.length) by omega, Nat.pow_add]
      rw [Nat.mul_left_comm]
    rw [e3]
    exact Nat.mul_le_mul e2 he
  rcases h with ⟨hl, e, h1, h2, he⟩ | ⟨h1, h2⟩
  · exact main e h1 h2 hl he
  · have p1 : 0 < 3 ^ (8 - f.length) := Nat.pos_of_ne_zero (by simp)
    by_cases hl : s.length < f.length
    · exact main 64 h1 h2 hl (by omega)
    · have m1 : (f.length + 1 - s.length) * (64 + 1) ≤ 1 * (64 + 1) := Nat.mul_le_mul_right _ (by omega)
      have p2 : 0 < 3 ^ (8 - s.length) := Nat.pos_of_ne_zero (by simp)
      exact ⟨64, h1, h2, by omega, fun r hr hrl => .inl ⟨hrl, 64 + (f.length + 1 - s.length) * (64 + 1), h2.mono (by omega), hr, by omega⟩⟩
theorem Szs.last {f s : List Int} (h : Szs f s) (hf : 0 < f.length) : Sz 300000 f := by
  rcases h with ⟨hl, e, h1, h2, he⟩ | ⟨h1, h2⟩
  · have big : 130 * 3 ^ (8 - f.length) ≤ 130 * 3 ^ 7 := Nat.mul_le_mul_left _ (Nat.pow_le_pow_right (by decide) (by omega))
    have bigv : 130 * 3 ^ 7 = 284310 := by decide
    exact h1.mono (by omega)
  · exact h1.mono (by omega)
theorem ok_poly_gcd (G : Bltn mg) (C_primitive_part : Cal P wo K mg base 42 "primitive_part" ["row"] fs_prim) (C_pseudo_remainder : Cal P wo K mg base 43 "pseudo_remainder" ["one", "other"] fs_prem) {f : Addr} {fd : FuncData} (F : Fun K "poly_gcd" "poly_gcd" s_poly_gcd f fd) : FnOk P wo K mg base CX0 44 f fd ["one", "other"] (spOf K fs_pgcd) := by
  have nd := sc_poly_gcd.nd
  refine fn_ok F sc_poly_gcd (fun ds w Q h => ?_) fun cdv A outer s H E hr => ?_
  · obtain ⟨_, _, rfl, _⟩ := h
    rfl
  refine ⟨_, (pss_cons (ps_par (i := 2) (j := 3) rfl nd rfl rfl (by decide) rfl rfl (pa_cons (pe_calK C_primitive_part rfl rfl rfl rfl rfl (hr.mono (by decide)) (by rfl) (pa_cons (pv 0) pa_nil)) (pa_cons (pe_calK C_primitive_part rfl rfl rfl rfl rfl (hr.mono (by decide)) (by rfl) (pa_cons (pv 1) pa_nil)) pa_nil)) (by rfl))
  (pss_cons (ps_while PassesOwn.never (pt_cmpR op_gt (pe_callB (r := rLenK K) call_len_seq (by rfl) G.len_ PySem.boot_len (pa_cons (pv 3) pa_nil)) pe_int (nomark _)) (pss_one (ps_par (i := 2) (j := 3) rfl nd rfl rfl (by decide) rfl rfl (pa_cons (pv 3) (pa_cons (pe_calK C_primitive_part rfl rfl rfl rfl rfl (hr.mono (by decide)) (by rfl) (pa_cons (pe_calK C_pseudo_remainder rfl rfl rfl rfl rfl (hr.mono (by decide)) (by rfl) (pa_cons (pv 2) (pa_cons (pv 3) pa_nil))) pa_nil)) pa_nil)) (by rfl))))
  (pss_one (ps_ret (pv 2))))), ?_⟩
  try dsimp only [cxOf, L2.Cx.nox, L2.Cx.wish, L2.Cx.blk]
  rintro ds w R ⟨a, b, rfl, hsa, hsb, hta, htb, hla, hlb, h0, q⟩
  repeat' walk_at "dl"
  refine ⟨64, a, rfl, by omega, hsa, by omega, ?_⟩
  repeat' walk_at "dl"
  refine ⟨64, b, rfl, by omega, hsb, by omega, ?_⟩
  repeat' walk_at "dl"
  have pl : ∀ l : List Int, (prim l).length ≤ l.length := fun l => Mat.prim_len
  have pla := pl a
  have plb := pl b
  have pe : ∀ l : List Int, l = [] → prim l = [] := fun l h => by rw [h]; rfl
  refine sd_while (J := fun l ρ' w' => w' = w ∧ ∃ f s : List Int, l = s.length ∧ ρ' = [some (dI a), some (dI b), some (dI f), some (dI s)] ∧ Tr f ∧ Tr s ∧ (f = [] ∨ PL f) ∧ (s = [] ∨ PL s) ∧ f.length ≤ 8 ∧ s.length ≤ 8 ∧ (0 < f.length ∨ 0 < s.length) ∧ Szs f s ∧
    (∀ g, GG g (T f) (T s) → GG g (T a) (T b)) ∧ (a = [] → (f = [] ∧ s = prim b) ∨ (f = prim b ∧ s = [])) ∧ (b = [] → s = [] ∧ f = prim a)) (prim b).length ⟨rfl, prim a, prim b, rfl, rfl, Mat.prim_Tr hta, Mat.prim_Tr htb, prim_cases hta, prim_cases htb, by omega, by omega, ?_, .inr ⟨sz_prim hsa, sz_prim hsb⟩, ?_, fun h => .inl ⟨pe a h, rfl⟩, fun h => ⟨pe b h, rfl⟩⟩ ?_
  · rcases h0 with h0 | h0
    · exact .inl (Mat.prim_PL hta h0).len
    · exact .inr (Mat.prim_PL htb h0).len
  · intro g hg
    obtain ⟨c, hc, e⟩ := Mat.prim_T (l := a)
    obtain ⟨c', hc', e'⟩ := Mat.prim_T (l := b)
    exact (GG.left hc' e' (GG.left hc e hg).swap).swap
  rintro l ρ' w' ⟨rfl, f, s, rfl, rfl, htf, hts, hpf, hps, hlf, hls, hfs, hsz, hgg, hea, heb⟩
  repeat' walk_at "dl"
  · obtain ⟨e, he1, he2, he3, he4⟩ := hsz.one hlf hls (by omega)
    refine ⟨e, e, f, s, rfl, he1, he2, htf, hts, by omega, by omega, by omega, he3, fun r hr1 hr2 hr3 hr4 hr5 => ?_⟩
    have m1 : (f.length + 1 - s.length) * (e + 1) ≤ 60000000 := by omega
    repeat' walk_at "dl"
    refine ⟨_, r, rfl, ?_, hr4, by omega, ?_⟩
    · omega
    repeat' walk_at "dl"
    have plr := pl r
    obtain ⟨k, qq, hk, hqq, hT⟩ := hr5
    obtain ⟨c, hc, ec⟩ := Mat.prim_T (l := r)
    refine ⟨(prim r).length, by omega, rfl, s, prim r, rfl, rfl, hts, Mat.prim_Tr hr1, hps, prim_cases hr1, hls, by omega, .inl (by omega), he4 _ (sz_prim hr4) (by omega), fun g hg => hgg g (GG.step hk hc hqq (by rw [← ec, hT]) hg), fun h => ?_, fun h => ?_⟩
    · rcases hea h with ⟨h1, h2⟩ | ⟨h1, h2⟩
      · refine .inr ⟨h2, ?_⟩
        rw [hr3 (by rw [h1]; show 0 < _; omega), h1]
        rfl
      · have hs0 : 0 < s.length := by omega
        rw [h2] at hs0
        exact absurd hs0 (by decide)
    · have hs0 : 0 < s.length := by omega
      rw [(heb h).1] at hs0
      exact absurd hs0 (by decide)
  · have hs0 : s = [] := List.length_eq_zero_iff.mp (by omega)
    subst hs0
    have hf0 : 0 < f.length := by
      rcases hfs with h | h
      · exact h
      · exact absurd h (by decide)
    have hpl : PL f := by
      rcases hpf with h | h
      · rw [h] at hf0; exact absurd hf0 (by decide)
      · exact h
    refine q f hpl hlf (hsz.last hf0) (fun h => ?_) (fun h => (heb h).2) (hgg _ (by rw [Mat.T_nil]; exact .refl))
    rcases hea h with ⟨h1, h2⟩ | ⟨h1, h2⟩
    · rw [h1] at hf0; exact absurd hf0 (by decide)
    · exact h1
end
end K67
set_option Elab.async false
set_option linter.all false
set_option maxRecDepth 100000
set_option maxHeartbeats 4000000
namespace K67
open PySem PySem.Spec PyProof.Rows L2 DL
open Mat (tab tab_length tab_at rr dd D ent ex xc)
local macro_rules | `(tactic| walk_at "wd") => `(tactic| first
  | exact Wd.put_same
  | exact Wd.at2 (by assumption)
  | assumption
  | exact Wd.put_of (by assumption) (by assumption)
  | exact Wd.put_of (by assumption) (Wd.put_of (by assumption) (by assumption))
  | fail "no world")
local macro_rules | `(tactic| walk_at "sd") => `(tactic| first
  | with_reducible refine sd_seq ?_
  | with_reducible refine sd_set ?_
  | with_reducible refine sd_asg ?_
  | with_reducible refine gd_name ?_
  | with_reducible refine sd_ret ?_
  | with_reducible refine sd_drop ?_
  | with_reducible refine sd_if ?_
  | with_reducible refine sd_par ?_
  | with_reducible refine sd_next ?_
  | with_reducible refine sd_break ?_
  | with_reducible refine sd_aug rfl ?_
  | fail "no step")
local macro_rules | `(tactic| walk_at "ix") => `(tactic| (with_reducible show OD _ (rIx _) _ _ _ _) <;> first
  | refine od_ix (.tup _) rfl ?_
  | refine od_ix (.lst [_, _, _, _]) rfl ?_
  | (refine od_ix (ds := ?dsx) (.obj ?hx) ?hy ?_; (case hx => walk_at "wd"); (case hy => exact rfl))
  | (refine od_ixLast (.lst _) ?_ ?_; (focus omega))
  | (refine od_ixLast (ns := ?nsx) (.obj ?hx) ?ha ?_; (case hx => walk_at "wd"); (case ha => omega))
  | (refine od_ixI (.lst _) ?_ ?_ ?_; (focus omega); (focus omega))
  | (refine od_ixM (.lst _) ?_ ?_ ?_; (focus omega); (focus omega))
  | (refine od_ixI (ns := ?nsx) (.obj ?hx) ?ha ?hb ?_; (case hx => walk_at "wd"); (case ha => omega); (case hb => omega))
  | (refine od_ixM (rows := ?nsx) (.obj ?hx) ?ha ?hb ?_; (case hx => walk_at "wd"); (case ha => omega); (case hb => omega))
  | fail "no index")
local macro_rules | `(tactic| walk_at "dl") => `(tactic| first
  | walk_at "sd"
  | with_reducible refine xd_int ?_
  | with_reducible refine xd_bl ?_
  | with_reducible refine xd_non ?_
  | with_reducible refine xd_str ?_
  | with_reducible refine xd_ty ?_
  | with_reducible refine xd_op ?_
  | with_reducible refine xd_un ?_
  | with_reducible refine xd_if ?_
  | with_reducible refine xd_tup ?_
  | with_reducible refine xd_cb ?_
  | with_reducible refine xd_call ?_
  | with_reducible refine xd_bm ?_
  | with_reducible refine xd_bm0 ?_
  | (refine And.intro (ty_list (ds := ?dsx) (.obj ?hx)) ?_; (case hx => walk_at "wd"))
  | (refine md_appI (ns := ?nsx) ?hx ?ha ?_; (case hx => walk_at "wd"); (case ha => omega))
  | (refine md_appM (rows := ?nsx) ?hx ?ha ?_; (case hx => walk_at "wd"); (case ha => omega))
  | (refine md_popI (ns := ?nsx) ?hx ?ha ?_; (case hx => walk_at "wd"); (case ha => omega))
  | with_reducible refine ad_nil ?_
  | with_reducible refine ad_cons ?_
  | with_reducible refine td_test ?_
  | with_reducible refine td_B ?_
  | with_reducible refine td_and ?_
  | with_reducible refine td_or ?_
  | with_reducible refine td_not ?_
  | with_reducible refine xd_andV ?_
  | with_reducible refine xd_orV ?_
  | with_reducible refine xd_notV ?_
  | with_reducible refine xd_sliceF ?_
  | with_reducible refine pd_none ?_
  | with_reducible refine pd_some ?_
  | with_reducible refine od_add ?_
  | with_reducible refine od_sub ?_
  | (with_reducible refine od_fdivR ?_ ?_; (focus omega))
  | (with_reducible refine od_modN ?_ ?_; (focus omega))
  | (with_reducible refine od_mulX ?_ ?_; (focus (refine mulB (by assumption) (by assumption) (by omega))))
  | with_reducible refine od_mulX ?_ ?_
  | (with_reducible refine od_mul ?_ ?_; (focus (first | exact Or.inl (by omega) | exact Or.inr (by omega))))
  | with_reducible refine od_lt ?_
  | with_reducible refine od_le ?_
  | with_reducible refine od_gt ?_
  | with_reducible refine od_ge ?_
  | with_reducible refine od_eqI ?_
  | with_reducible refine od_neI ?_
  | (refine od_eqL (.lst _) (.lst _) ?_; (focus skip))
  | (refine od_neL (.lst _) (.lst _) ?_; (focus skip))
  | refine od_isL ?_
  | with_reducible refine ud_neg ?_
  | with_reducible refine id_I ?_
  | refine cd_isi (b := true) (.int _) (by with_unfolding_all rfl) ?_
  | refine cd_isi (b := false) (.int _) (by with_unfolding_all rfl) ?_
  | refine cd_isi (b := true) (.lst _) (by with_unfolding_all rfl) ?_
  | with_reducible refine cd_max2 ?_
  | with_reducible refine cd_abs ?_
  | with_reducible refine cd_int1 ?_
  | with_reducible refine cd_intB ?_
  | refine cd_lenI (.lst _) ?_
  | refine cd_lenM (.lst _) ?_
  | (refine cd_lenI (ns := ?nsx) (.obj ?hx) ?_; (case hx => walk_at "wd"))
  | (refine cd_lenM (rows := ?nsx) (.obj ?hx) ?_; (case hx => walk_at "wd"))
  | refine cd_listF (.lst _) ?_
  | (refine cd_listF (ds := ?dsx) (.obj ?hx) ?_; (case hx => walk_at "wd"))
  | (refine od_catI (.lst _) (.lst _) ?_ ?_; (focus (first | omega | (simp only [List.length_append, List.length_map, tab_length]; omega))))
  | walk_at "ix"
  | with_reducible refine xd_var rfl ?_
  | with_reducible refine And.intro rfl ?_
  | with_reducible refine ⟨_, rfl, ?_⟩
  | with_reducible refine ⟨_, _, rfl, ?_⟩
  | (with_reducible refine And.intro (fun hb => ?_) (fun hb => ?_) <;> (try (exact absurd hb (by decide))) <;> (try simp only [decide_eq_true_eq, decide_eq_false_iff_not, Bool.not_eq_true', Bool.not_eq_false', Bool.true_eq_false, Bool.false_eq_true, Bool.not_eq_true, Bool.not_eq_false, Int.not_lt, Int.not_le] at hb))
  | with_reducible exact rfl
  | fail "no step")
local macro_rules | `(tactic| walk_at "ix") => `(tactic| (with_reducible show OD _ (rIx _) _ (.int (Nat.cast _)) _ _) <;> first
  | (refine od_ixIN (.lst _) ?_ ?_; (focus omega))
  | (refine od_ixMN (.lst _) ?_ ?_; (focus omega))
  | (refine od_ixIN (ns := ?nsx) (.obj ?hx) ?ha ?_; (case hx => walk_at "wd"); (case ha => omega))
  | (refine od_ixMN (rows := ?nsx) (.obj ?hx) ?ha ?_; (case hx => walk_at "wd"); (case ha => omega))
  | fail "no index")
theorem bt_D {n b : Nat} {x : Int} (hn : n ≤ 16) (h : x.natAbs ≤ n ^ n * (2 ^ b) ^ n) : Bt (4 * n + b * n + 1) x := by
  have h1 : n ^ n ≤ (2 ^ 4) ^ n := Nat.pow_le_pow_left hn n
  rw [← Nat.pow_mul] at h1
  rw [← Nat.pow_mul] at h
  have h2 : n ^ n * 2 ^ (b * n) ≤ 2 ^ (4 * n) * 2 ^ (b * n) := Nat.mul_le_mul_right _ h1
  rw [← Nat.pow_add] at h2
  have h3 : 2 ^ (4 * n + b * n) < 2 ^ (4 * n + b * n + 1) := Nat.pow_lt_pow_right (by decide) (by omega)
  unfold Bt
  omega
theorem bt_rr {n b : Nat} {a : Mat.VL Int} (hn : n ≤ 16) (h : ∀ p, p < n → ∀ c, c < n → Bt b (a p c)) {k j i : Nat} (hj : j < n) : Bt (4 * n + b * n + 1) (rr n a k j i) :=
  bt_D hn (Mat.rr_size (Nat.two_pow_pos b) (fun p hp c hc => Nat.le_of_lt (h p hp c hc)) hj)
theorem bt_ex {n b k q : Nat} {a : Mat.VL Int} (hk : k < n) (hq : q < n) (h : ∀ p, p < n → ∀ c, c < n → Bt b (a p c)) : ∀ p, p < n → ∀ c, c < n → Bt b (ex a k q p c) := fun p hp c hc => by
  show Bt b (a (xc k q p) c)
  refine h _ ?_ c hc
  unfold xc
  split
  · exact hq
  · split
    · exact hk
    · exact hp
section
variable {P : Program} {wo : World} {K : PySem.W.Frag} {mg : Str → Option Value} {base : Heap}
def fs_det : FS := fun ds w Q => ∃ (b : Nat) (rows : List (List Int)), ds = [.lst (dM rows)] ∧ rows.length ≤ 16 ∧ (∀ j, j < rows.length → (rows.getD j []).length = rows.length) ∧ (∀ p, p < rows.length → ∀ c, c < rows.length → Bt b (ent rows p c)) ∧ 4 * rows.length + b * rows.length + 1 ≤ 60000000 ∧ Q (.int (D rows.length (ent rows))) w
/-- what the rows are at the start of step k -/
def Stp (n : Nat) (a0 a : Mat.VL Int) (b : Nat) (rws : List (List Int)) (s : Int) (k : Nat) : Prop :=
  rws.length = n ∧ (∀ j, j < n → (rws.getD j []).length = n) ∧ (∀ j i, k ≤ j → j < n → i < n → (rws.getD j []).getD i 0 = rr n a k j i) ∧ dd n a k ≠ 0 ∧ (s = 1 ∨ s = -1) ∧ D n a = s * D n a0 ∧ ∀ p, p < n → ∀ c, c < n → Bt b (a p c)
theorem ok_law_determinant (G : Bltn mg) (hS : base.NoSeer) (hT : P.given.tree = none) {f : Addr} {fd : FuncData} (F : Fun K "_law_determinant" "_law_determinant" s_law_determinant f fd) : FnOk P wo K mg base CX0 41 f fd ["matrix"] (spOf K fs_det) := by
  have nd := sc_law_determinant.nd
  refine fn_ok F sc_law_determinant (fun ds w Q h => ?_) fun cdv A outer s H E hr => ?_
  · obtain ⟨_, _, rfl, _⟩ := h
    rfl
  have hp := plain_of (N := n_law_determinant) (wo := wo) (K := K) (mg := mg) (outer := outer) (H := H) (E := E) hS hT hr (by decide) rfl rfl
  refine ⟨_, (pss_cons (ps_setLc (i := 1) (own := [("row", 11)]) (g := gName 11) (tt := tYes) rfl nd rfl rfl (sw_true rfl rfl rfl (by decide +kernel)) (pi_listK (K := K) rfl (pv 0)) (blkOk_by (own := [("row", 11)]) (N := n_law_determinant) (sc := (defScope s_law_determinant)) (by decide +kernel)) (fun _ _ _ _ _ => (pg_name (i := 11) nd rfl (Or.inl rfl))) (fun _ _ _ _ _ => pts_nil) (fun _ _ _ _ _ => (pe_callTy (r := rLstK K) call_list_of (by rfl) G.list_ (by decide +kernel) (pa_cons (pv 11) pa_nil))))
  (pss_cons (ps_set (i := 2) nd rfl (Or.inl rfl) (pe_callB (r := rLenK K) call_len_seq (by rfl) G.len_ PySem.boot_len (pa_cons (pv 1) pa_nil)))
  (pss_cons (ps_set (i := 3) nd rfl (Or.inl rfl) pe_int)
  (pss_cons (ps_set (i := 4) nd rfl (Or.inr rfl) pe_int)
  (pss_cons (ps_for PassesOwn.never rfl (pi_range1 (by rfl) G.range_ (pa_cons (pv 2) pa_nil)) (pg_name (i := 5) nd rfl (Or.inr rfl)) (pss_cons (ps_set (i := 6) nd rfl (Or.inl rfl) (pv 5))
  (pss_cons (ps_while PassesOwn.never (PW.pt (pw_and (pt_cmpR op_lt (pv 6) (pv 2) (nomark _)) (pw_and1 (pt_cmpR op_eq (pe_ix (r := rIx K) ix_seq (pe_ix (r := rIx K) ix_seq (pv 1) (pv 6) (fun _ _ => rfl)) (pv 5) (fun _ _ => rfl)) pe_int (nomark _))))) (pss_one (ps_aug (i := 6) nd rfl (Or.inl rfl) pe_int ip_add)))
  (pss_cons (ps_if (pt_cmpR op_eq (pv 6) (pv 2) (nomark _)) (pss_one (ps_ret pe_int)) pss_nil)
  (pss_cons (ps_if (pt_cmpR op_gt (pv 6) (pv 5) (nomark _)) (pss_cons (ps_set (i := 3) nd rfl (Or.inl rfl) (pe_un un_neg (pv 3)))
  (pss_cons (ps_set (i := 7) nd rfl (Or.inl rfl) (pe_ix (r := rIx K) ix_seq (pv 1) (pv 5) (fun _ _ => rfl)))
  (pss_cons (ps_asg (pe_ix (r := rIx K) ix_seq (pv 1) (pv 6) (fun _ _ => rfl)) (pg_sub (pv 1) (pv 5) set_list))
  (pss_one (ps_asg (pv 7) (pg_sub (pv 1) (pv 6) set_list)))))) pss_nil)
  (pss_cons (ps_set (i := 8) nd rfl (Or.inr rfl) (pe_ix (r := rIx K) ix_seq (pv 1) (pv 5) (fun _ _ => rfl)))
  (pss_cons (ps_for PassesOwn.never rfl (pi_range2 (by rfl) G.range_ (pa_cons (pe_op op_add (pv 5) pe_int) (pa_cons (pv 2) pa_nil))) (pg_name (i := 9) nd rfl (Or.inl rfl)) (pss_cons (ps_set (i := 10) nd rfl (Or.inr rfl) (pe_ix (r := rIx K) ix_seq (pv 1) (pv 9) (fun _ _ => rfl)))
  (pss_one (ps_asg (pe_lc (own := [("i", 12)]) (g := gName 12) (tt := tYes) rfl nd (pi_range1 (by rfl) G.range_ (pa_cons (pv 2) pa_nil)) (blkOk_by (own := [("i", 12)]) (N := n_law_determinant) (sc := (defScope s_law_determinant)) (by decide +kernel)) (fun _ _ _ _ _ => (pg_name (i := 12) nd rfl (Or.inl rfl))) (fun _ _ _ _ _ => pts_nil) (fun _ _ _ _ _ => (pe_op (op_fdivR hp.blk) (pe_op op_sub (pe_op op_mulX (pe_ix (r := rIx K) ix_seq (pv 10) (pv 12) (fun _ _ => rfl)) (pe_ix (r := rIx K) ix_seq (pv 8) (pv 5) (fun _ _ => rfl))) (pe_op op_mulX (pe_ix (r := rIx K) ix_seq (pv 10) (pv 5) (fun _ _ => rfl)) (pe_ix (r := rIx K) ix_seq (pv 8) (pv 12) (fun _ _ => rfl)))) (pv 4)))) (pg_sub (pv 1) (pv 9) set_list)))))
  (pss_one (ps_set (i := 4) nd rfl (Or.inr rfl) (pe_ix (r := rIx K) ix_seq (pv 8) (pv 5) (fun _ _ => rfl)))))))))))
  (pss_one (ps_ret (pe_op op_mulX (pv 3) (pv 4))))))))), ?_⟩
  try dsimp only [cxOf, L2.Cx.nox, L2.Cx.wish, L2.Cx.blk]
  rintro ds w R ⟨b, rows, rfl, hn, hlen, hb, hbn, q⟩
  generalize hN : rows.length = n at *
  refine sd_sub ?_
  repeat' walk_at "dl"
  refine xd_lcLP (gw_name (by decide)) ?_
  repeat' walk_at "dl"
  refine ⟨_, .lst _, by rw [List.length_map]; omega, fun i => dI (rows.getD i []), fun i x w' hx hs => ?_, fun p hpn => ?_⟩
  · rw [List.getElem?_map] at hx
    obtain ⟨r, hr, rfl⟩ := Option.map_eq_some_iff.mp hx
    repeat' walk_at "dl"
    show dI r = dI (rows.getD i [])
    rw [List.getD_eq_getElem?_getD, hr]
    rfl
  have e0 : (List.range (dM rows).length).map (fun i => dI (rows.getD i [])) = dM rows := by
    rw [List.length_map]
    exact range_map_get fun i x hx => by rw [List.getD_eq_getElem?_getD, hx]; rfl
  rw [e0]
  repeat' walk_at "dl"
  rw [hN]
  refine sd_forR1 ?_
  repeat' walk_at "dl"
  refine ⟨by omega, by omega, fun k ρ' w' => ∃ (a : Mat.VL Int) (rws : List (List Int)) (s : Int) (o5 o6 o7 o8 o9 o10 o11 o12 : Option Dat), ρ' = [some (.lst (dM rows)), some (.obj p), some (.int n), some (.int s), some (.int (dd n a k)), o5, o6, o7, o8, o9, o10, o11, o12] ∧ w' = w.put p (dM rws) ∧ Stp n (ent rows) a b rws s k, ?_, ?_, ?_⟩
  · refine ⟨ent rows, rows, 1, none, none, none, none, none, none, none, none, ?_, rfl, hN, hlen, fun j i _ hj hi => ?_, ?_, .inl rfl, by omega, hb⟩
    · rw [Mat.dd_zero]; rfl
    · rw [Mat.rr_zero hi]; rfl
    · rw [Mat.dd_zero]; decide
  · rintro k ρ' w' hk ⟨a, rws, s, o5, o6, o7, o8, o9, o10, o11, o12, rfl, rfl, hl, hlr, hv, hd, hs, hD, hba⟩
    have hk' : k < n := by omega
    refine gd_name ?_
    refine sd_seq (sd_set (xd_var rfl ?_))
    -- the search
    refine sd_cut (fun ρ' w' => ∃ pl : Nat, k ≤ pl ∧ pl ≤ n ∧ ρ' = [some (.lst (dM rows)), some (.obj p), some (.int n), some (.int s), some (.int (dd n a k)), some (.int k), some (.int pl), o7, o8, o9, o10, o11, o12] ∧ w' = w.put p (dM rws) ∧ (∀ j, k ≤ j → j < pl → rr n a k j k = 0) ∧ (pl < n → rr n a k pl k ≠ 0)) ?_ ?_
    · refine sd_while (J := fun m ρ' w' => ∃ pl : Nat, m = n - pl ∧ k ≤ pl ∧ pl ≤ n ∧ ρ' = [some (.lst (dM rows)), some (.obj p), some (.int n), some (.int s), some (.int (dd n a k)), some (.int k), some (.int pl), o7, o8, o9, o10, o11, o12] ∧ w' = w.put p (dM rws) ∧ (∀ j, k ≤ j → j < pl → rr n a k j k = 0)) (n - k) ⟨k, rfl, by omega, by omega, rfl, rfl, fun j h1 h2 => by omega⟩ ?_
      rintro m ρ' w' ⟨pl, rfl, h1, h2, rfl, rfl, hz⟩
      have hpl := hlr pl
      repeat' walk_at "dl"
      · have e := ‹(rws.getD pl []).getD k 0 = 0›
        rw [hv pl k h1 (by omega) hk'] at e
        refine ⟨n - (pl + 1), by omega, pl + 1, rfl, by omega, by omega, rfl, rfl, fun j h3 h4 => ?_⟩
        by_cases hj : j = pl
        · rw [hj]; exact e
        · exact hz j h3 (by omega)
      · have e := ‹¬ (rws.getD pl []).getD k 0 = 0›
        rw [hv pl k h1 (by omega) hk'] at e
        exact ⟨pl, h1, h2, rfl, rfl, hz, fun _ => e⟩
      · exact ⟨pl, h1, h2, rfl, rfl, hz, fun h => by omega⟩
    rintro ρ' w' ⟨pl, h1, h2, rfl, rfl, hz, hnz⟩
    -- no pivot
    refine sd_cut (fun ρ' w' => pl < n ∧ ρ' = [some (.lst (dM rows)), some (.obj p), some (.int n), some (.int s), some (.int (dd n a k)), some (.int k), some (.int pl), o7, o8, o9, o10, o11, o12] ∧ w' = w.put p (dM rws)) ?_ ?_
    · repeat' walk_at "dl"
      · have hpl : pl = n := by omega
        have z := Mat.rr_stuck hk' hd (fun j h3 h4 => hz j h3 (by omega))
        have e : D n (ent rows) = 0 := by
          rcases hs with hs | hs
          · rw [hs] at hD; omega
          · rw [hs] at hD; omega
        rw [e] at q
        exact ⟨w, sub_put hpn, q⟩
      · exact ⟨by omega, rfl, rfl⟩
    rintro ρ' w' ⟨h2', rfl, rfl⟩
    have hnz := hnz h2'
    -- the exchange
    refine sd_cut (fun ρ' w' => ∃ (a : Mat.VL Int) (rws : List (List Int)) (s : Int) (o7 : Option Dat), ρ' = [some (.lst (dM rows)), some (.obj p), some (.int n), some (.int s), some (.int (dd n a k)), some (.int k), some (.int pl), o7, o8, o9, o10, o11, o12] ∧ w' = w.put p (dM rws) ∧ Stp n (ent rows) a b rws s k ∧ rr n a k k k ≠ 0) ?_ ?_
    · repeat' walk_at "dl"
      · refine gd_subM ?_
        repeat' walk_at "dl"
        refine ⟨p, rws, _, rfl, rfl, Wd.put_same, by omega, by omega, ?_⟩
        rw [Int.toNat_natCast]
        repeat' walk_at "dl"
        refine gd_subM ?_
        repeat' walk_at "dl"
        have hl2 : (rws.set k (rws.getD pl [])).length = n := by rw [List.length_set, hl]
        refine ⟨p, rws.set k (rws.getD pl []), _, rfl, rfl, Wd.put_same, by omega, by omega, ?_⟩
        rw [Int.toNat_natCast, Wd.put_put, Wd.put_put]
        have hkp : k ≠ pl := by omega
        have ge : ∀ j, ((rws.set k (rws.getD pl [])).set pl (rws.getD k [])).getD j [] = rws.getD (xc k pl j) [] := fun j => by
          rw [getD_setM j (by omega), getD_setM j (by omega)]
          unfold xc
          by_cases e1 : j = k
          · subst e1; rw [if_neg hkp, if_pos rfl, if_pos rfl]
          · rw [if_neg e1, if_neg e1]
            by_cases e2 : j = pl
            · rw [if_pos e2, if_pos e2]
            · rw [if_neg e2, if_neg e2]
        have xl : ∀ j, j < n → xc k pl j < n := fun j hj => by
          unfold xc
          split
          · exact h2'
          · split
            · exact hk'
            · exact hj
        have xg : ∀ j, k ≤ j → k ≤ xc k pl j := fun j hj => by
          unfold xc
          split
          · exact h1
          · split
            · exact Nat.le_refl _
            · exact hj
        refine ⟨ex a k pl, (rws.set k (rws.getD pl [])).set pl (rws.getD k []), -s, _, by rw [Mat.dd_ex h1]; rfl, rfl, ⟨by rw [List.length_set, hl2], fun j hj => by rw [ge]; exact hlr _ (xl j hj), fun j i h3 h4 h5 => ?_, ?_, ?_, ?_, bt_ex hk' h2' hba⟩, ?_⟩
        · rw [ge, Mat.rr_ex h1]
          exact hv _ i (xg j h3) (xl j h4) h5
        · rw [Mat.dd_ex h1]; exact hd
        · rcases hs with hs | hs
          · right; omega
          · left; omega
        · rw [Mat.D_ex hk' h2' hkp, hD, Int.neg_mul]
        · rw [Mat.rr_ex h1]
          have e : xc k pl k = pl := if_pos rfl
          rw [e]
          exact hnz
      · have e : pl = k := by omega
        subst e
        exact ⟨a, rws, s, o7, rfl, rfl, ⟨hl, hlr, hv, hd, hs, hD, hba⟩, hnz⟩
    clear hnz hz hba hD hs hd hv hlr hl
    rintro ρ' w' ⟨a, rws, s, o7, rfl, rfl, ⟨hl, hlr, hv, hd, hs, hD, hba⟩, hnz⟩
    have hlk := hlr k hk'
    repeat' walk_at "dl"
    refine sd_forR2 ?_
    repeat' walk_at "dl"
    refine ⟨⟨by omega, by omega, by omega, by omega⟩, fun t ρ' w' => ∃ (rw2 : List (List Int)) (o9 o10 o11 o12 : Option Dat), ρ' = [some (.lst (dM rows)), some (.obj p), some (.int n), some (.int s), some (.int (dd n a k)), some (.int k), some (.int pl), o7, some (dI (rws.getD k [])), o9, o10, o11, o12] ∧ w' = w.put p (dM rw2) ∧ rw2.length = n ∧ (∀ j, j < n → (rw2.getD j []).length = n) ∧
      (∀ j i, k < j → j < k + 1 + t → j < n → i < n → (rw2.getD j []).getD i 0 = rr n a (k + 1) j i) ∧ (∀ j i, k + 1 + t ≤ j → j < n → i < n → (rw2.getD j []).getD i 0 = rr n a k j i), ⟨rws, o9, o10, o11, o12, rfl, rfl, hl, hlr, fun j i _ _ _ _ => by omega, fun j i h3 h4 h5 => hv j i (by omega) h4 h5⟩, ?_, ?_⟩
    · rintro t ρ' w' ht ⟨rw2, o9, o10, o11, o12, rfl, rfl, hl2, hlr2, hd2, hr2⟩
      have hj : k + 1 + t < n := by omega
      have hlj := hlr2 (k + 1 + t) hj
      rw [show ((k : Int) + 1 + (t : Int)) = ((k + 1 + t : Nat) : Int) by omega]
      generalize hjj : k + 1 + t = j at *
      repeat' walk_at "dl"
      refine xd_lcR1I (gw_name (by decide)) ?_
      repeat' walk_at "dl"
      refine ⟨_, fun i => rr n a (k + 1) j i, rfl, by omega, by omega, fun i w' hi hs => ?_, ?_⟩
      · have hi' : i < n := by omega
        have b1 := bt_rr (k := k) (j := j) (i := i) hn hba hj
        have b2 := bt_rr (k := k) (j := k) (i := k) hn hba hk'
        have b3 := bt_rr (k := k) (j := j) (i := k) hn hba hj
        have b4 := bt_rr (k := k) (j := k) (i := i) hn hba hk'
        have e1 : (rw2.getD j []).getD i 0 = rr n a k j i := hr2 j i (by omega) hj hi'
        have e2 : (rw2.getD j []).getD k 0 = rr n a k j k := hr2 j k (by omega) hj hk'
        have e3 : (rws.getD k []).getD i 0 = rr n a k k i := hv k i (Nat.le_refl _) hk' hi'
        have e4 : (rws.getD k []).getD k 0 = rr n a k k k := hv k k (Nat.le_refl _) hk' hk'
        repeat' walk_at "dl"
        all_goals try rw [e1]
        all_goals try rw [e2]
        all_goals try rw [e3]
        all_goals try rw [e4]
        · exact mulB b1 b2 (by omega)
        repeat' walk_at "dl"
        · exact mulB b3 b4 (by omega)
        repeat' walk_at "dl"
        show Dat.int _ = Dat.int (rr n a (k + 1) j i)
        rw [Mat.fdiv_of hd (by rw [← Mat.rr_step hk' hi', Int.mul_comm])]
      repeat' walk_at "dl"
      refine gd_subM ?_
      repeat' walk_at "dl"
      refine ⟨p, rw2, _, rfl, rfl, Wd.put_same, by omega, by omega, ?_⟩
      rw [Int.toNat_natCast, Int.toNat_natCast, Wd.put_put]
      have gs := fun j' => getD_setM (rows := rw2) (r := tab n fun i => rr n a (k + 1) j i) j' (show j < rw2.length by omega)
      refine ⟨_, _, _, _, _, rfl, rfl, by rw [List.length_set, hl2], fun j' h3 => ?_, fun j' i h3 h4 h5 h6 => ?_, fun j' i h3 h4 h5 => ?_⟩
      · rw [gs]
        split
        · exact tab_length
        · exact hlr2 j' h3
      · rw [gs]
        by_cases e : j' = j
        · rw [if_pos e, tab_at, if_pos h6, e]
        · rw [if_neg e]
          exact hd2 j' i h3 (by omega) h5 h6
      · rw [gs, if_neg (by omega)]
        exact hr2 j' i (by omega) h4 h5
    rintro ρ' w' ⟨rw2, o9, o10, o11, o12, rfl, rfl, hl2, hlr2, hd2, hr2⟩
    repeat' walk_at "dl"
    have e4 : (rws.getD k []).getD k 0 = rr n a k k k := hv k k (Nat.le_refl _) hk' hk'
    refine ⟨a, rw2, s, _, _, _, _, _, _, _, _, by rw [Mat.dd_succ, ← e4]; rfl, rfl, hl2, hlr2, fun j i h3 h4 h5 => hd2 j i (by omega) (by omega) h4 h5, by rw [Mat.dd_succ]; exact hnz, hs, hD, hba⟩
  rintro ρ' w' ⟨a, rws, s, o5, o6, o7, o8, o9, o10, o11, o12, rfl, rfl, hl, hlr, hv, hd, hs, hD, hba⟩
  rw [Int.toNat_natCast] at *
  have hdd : dd n a n = D n a := Mat.dd_all
  have bd : Bt (4 * n + b * n + 1) (dd n a n) := bt_D hn (Mat.dd_size (Nat.two_pow_pos b) fun p hp c hc => Nat.le_of_lt (hba p hp c hc))
  have bs : Bt 1 s := by
    rcases hs with hs | hs
    · rw [hs]; unfold Bt; decide
    · rw [hs]; unfold Bt; decide
  repeat' walk_at "dl"
  refine ⟨w, sub_put hpn, ?_⟩
  have e : s * dd n a n = D n (ent rows) := by
    rw [hdd, hD]
    rcases hs with hs | hs
    · rw [hs]; omega
    · rw [hs]; omega
  rw [e]
  exact q
end
end K67
set_option Elab.async false
set_option linter.all false
set_option maxRecDepth 100000
set_option maxHeartbeats 4000000
namespace K67
open PySem PySem.Spec PyProof.Rows L2 DL
open Mat (tab tab_length tab_at rr dd D ent ex xc trimP mulP subP Tr T RT syl sylL pad tabM)
local macro_rules | `(tactic| walk_at "wd") => `(tactic| first
  | exact Wd.put_same
  | exact Wd.at2 (by assumption)
  | assumption
  | exact Wd.put_of (by assumption) (by assumption)
  | exact Wd.put_of (by assumption) (Wd.put_of (by assumption) (by assumption))
  | fail "no world")
local macro_rules | `(tactic| walk_at "sd") => `(tactic| first
  | with_reducible refine sd_seq ?_
  | with_reducible refine sd_set ?_
  | with_reducible refine sd_asg ?_
  | with_reducible refine gd_name ?_
  | with_reducible refine sd_ret ?_
  | with_reducible refine sd_drop ?_
  | with_reducible refine sd_if ?_
  | with_reducible refine sd_par ?_
  | with_reducible refine sd_next ?_
  | with_reducible refine sd_break ?_
  | with_reducible refine sd_aug rfl ?_
  | fail "no step")
local macro_rules | `(tactic| walk_at "ix") => `(tactic| (with_reducible show OD _ (rIx _) _ _ _ _) <;> first
  | refine od_ix (.tup _) rfl ?_
  | refine od_ix (.lst [_, _, _, _]) rfl ?_
  | (refine od_ix (ds := ?dsx) (.obj ?hx) ?hy ?_; (case hx => walk_at "wd"); (case hy => exact rfl))
  | (refine od_ixLast (.lst _) ?_ ?_; (focus omega))
  | (refine od_ixLast (ns := ?nsx) (.obj ?hx) ?ha ?_; (case hx => walk_at "wd"); (case ha => omega))
  | (refine od_ixI (.lst _) ?_ ?_ ?_; (focus omega); (focus omega))
  | (refine od_ixM (.lst _) ?_ ?_ ?_; (focus omega); (focus omega))
  | (refine od_ixI (ns := ?nsx) (.obj ?hx) ?ha ?hb ?_; (case hx => walk_at "wd"); (case ha => omega); (case hb => omega))
  | (refine od_ixM (rows := ?nsx) (.obj ?hx) ?ha ?hb ?_; (case hx => walk_at "wd"); (case ha => omega); (case hb => omega))
  | fail "no index")
local macro_rules | `(tactic| walk_at "dl") => `(tactic| first
  | walk_at "sd"
  | with_reducible refine xd_int ?_
  | with_reducible refine xd_bl ?_
  | with_reducible refine xd_non ?_
  | with_reducible refine xd_str ?_
  | with_reducible refine xd_ty ?_
  | with_reducible refine xd_op ?_
  | with_reducible refine xd_un ?_
  | with_reducible refine xd_if ?_
  | with_reducible refine xd_tup ?_
  | with_reducible refine xd_cb ?_
  | with_reducible refine xd_call ?_
  | with_reducible refine xd_bm ?_
  | with_reducible refine xd_bm0 ?_
  | (refine And.intro (ty_list (ds := ?dsx) (.obj ?hx)) ?_; (case hx => walk_at "wd"))
  | (refine md_appI (ns := ?nsx) ?hx ?ha ?_; (case hx => walk_at "wd"); (case ha => omega))
  | (refine md_appM (rows := ?nsx) ?hx ?ha ?_; (case hx => walk_at "wd"); (case ha => omega))
  | (refine md_popI (ns := ?nsx) ?hx ?ha ?_; (case hx => walk_at "wd"); (case ha => omega))
  | with_reducible refine ad_nil ?_
  | with_reducible refine ad_cons ?_
  | with_reducible refine td_test ?_
  | with_reducible refine td_B ?_
  | with_reducible refine td_and ?_
  | with_reducible refine td_or ?_
  | with_reducible refine td_not ?_
  | with_reducible refine xd_andV ?_
  | with_reducible refine xd_orV ?_
  | with_reducible refine xd_notV ?_
  | with_reducible refine xd_sliceF ?_
  | with_reducible refine pd_none ?_
  | with_reducible refine pd_some ?_
  | with_reducible refine od_add ?_
  | with_reducible refine od_sub ?_
  | (with_reducible refine od_fdivR ?_ ?_; (focus omega))
  | (with_reducible refine od_modN ?_ ?_; (focus omega))
  | (with_reducible refine od_mulX ?_ ?_; (focus (refine mulB (by assumption) (by assumption) (by omega))))
  | with_reducible refine od_mulX ?_ ?_
  | (with_reducible refine od_mul ?_ ?_; (focus (first | exact Or.inl (by omega) | exact Or.inr (by omega))))
  | with_reducible refine od_lt ?_
  | with_reducible refine od_le ?_
  | with_reducible refine od_gt ?_
  | with_reducible refine od_ge ?_
  | with_reducible refine od_eqI ?_
  | with_reducible refine od_neI ?_
  | (refine od_eqL (.lst _) (.lst _) ?_; (focus skip))
  | (refine od_neL (.lst _) (.lst _) ?_; (focus skip))
  | refine od_isL ?_
  | with_reducible refine ud_neg ?_
  | with_reducible refine id_I ?_
  | refine cd_isi (b := true) (.int _) (by with_unfolding_all rfl) ?_
  | refine cd_isi (b := false) (.int _) (by with_unfolding_all rfl) ?_
  | refine cd_isi (b := true) (.lst _) (by with_unfolding_all rfl) ?_
  | with_reducible refine cd_max2 ?_
  | with_reducible refine cd_abs ?_
  | with_reducible refine cd_int1 ?_
  | with_reducible refine cd_intB ?_
  | refine cd_lenI (.lst _) ?_
  | refine cd_lenM (.lst _) ?_
  | (refine cd_lenI (ns := ?nsx) (.obj ?hx) ?_; (case hx => walk_at "wd"))
  | (refine cd_lenM (rows := ?nsx) (.obj ?hx) ?_; (case hx => walk_at "wd"))
  | refine cd_listF (.lst _) ?_
  | (refine cd_listF (ds := ?dsx) (.obj ?hx) ?_; (case hx => walk_at "wd"))
  | (refine od_catI (.lst _) (.lst _) ?_ ?_; (focus (first | omega | (simp only [List.length_append, List.length_map, tab_length]; omega))))
  | walk_at "ix"
  | with_reducible refine xd_var rfl ?_
  | with_reducible refine And.intro rfl ?_
  | with_reducible refine ⟨_, rfl, ?_⟩
  | with_reducible refine ⟨_, _, rfl, ?_⟩
  | (with_reducible refine And.intro (fun hb => ?_) (fun hb => ?_) <;> (try (exact absurd hb (by decide))) <;> (try simp only [decide_eq_true_eq, decide_eq_false_iff_not, Bool.not_eq_true', Bool.not_eq_false', Bool.true_eq_false, Bool.false_eq_true, Bool.not_eq_true, Bool.not_eq_false, Int.not_lt, Int.not_le] at hb))
  | with_reducible exact rfl
  | fail "no step")
local macro_rules | `(tactic| walk_at "ix") => `(tactic| (with_reducible show OD _ (rIx _) _ (.int (Nat.cast _)) _ _) <;> first
  | (refine od_ixIN (.lst _) ?_ ?_; (focus omega))
  | (refine od_ixMN (.lst _) ?_ ?_; (focus omega))
  | (refine od_ixIN (ns := ?nsx) (.obj ?hx) ?ha ?_; (case hx => walk_at "wd"); (case ha => omega))
  | (refine od_ixMN (rows := ?nsx) (.obj ?hx) ?ha ?_; (case hx => walk_at "wd"); (case ha => omega))
  | fail "no index")
section
variable {P : Program} {wo : World} {K : PySem.W.Frag} {mg : Str → Option Value} {base : Heap}
def fs_res : FS := fun ds w Q => ∃ (b : Nat) (l r : List Int), ds = [dI l, dI r] ∧ 0 < l.length ∧ 0 < r.length ∧ l.length + r.length ≤ 18 ∧ Sz b l ∧ Sz b r ∧ 4 * (l.length + r.length - 2) + b * (l.length + r.length - 2) + 1 ≤ 60000000 ∧ Q (.int (D (l.length + r.length - 2) (syl l r))) w
theorem bt_pad {b m k : Nat} {l : List Int} (h : Sz b l) (c : Nat) : Bt b ((pad m k l).getD c 0) := by
  rw [Mat.pad_get]
  show Bt b (if k ≤ c then l.getD (c - k) 0 else 0)
  split
  · exact h _
  · exact Bt.zero
theorem ok_law_resultant (G : Bltn mg) (C_law_determinant : Cal P wo K mg base 41 "_law_determinant" ["matrix"] fs_det) {f : Addr} {fd : FuncData} (F : Fun K "_law_resultant" "_law_resultant" s_law_resultant f fd) : FnOk P wo K mg base CX0 42 f fd ["one", "other"] (spOf K fs_res) := by
  have nd := sc_law_resultant.nd
  refine fn_ok F sc_law_resultant (fun ds w Q h => ?_) fun cdv A outer s H E hr => ?_
  · obtain ⟨_, _, _, rfl, _⟩ := h
    rfl
  refine ⟨_, (pss_cons (ps_set (i := 2) nd rfl (Or.inl rfl) (pe_op op_sub (pe_op op_add (pe_callB (r := rLenK K) call_len_seq (by rfl) G.len_ PySem.boot_len (pa_cons (pv 0) pa_nil)) (pe_callB (r := rLenK K) call_len_seq (by rfl) G.len_ PySem.boot_len (pa_cons (pv 1) pa_nil))) pe_int))
  (pss_cons (ps_set (i := 3) nd rfl (Or.inl rfl) (pe_lst pa_nil))
  (pss_cons (ps_for PassesOwn.never rfl (pi_range1 (by rfl) G.range_ (pa_cons (pe_op op_sub (pe_callB (r := rLenK K) call_len_seq (by rfl) G.len_ PySem.boot_len (pa_cons (pv 1) pa_nil)) pe_int) pa_nil)) (pg_name (i := 4) nd rfl (Or.inl rfl)) (pss_one (ps_expr (pe_bm PySem.F.plainAttrs_list PySem.F.slot_list_append PySem.F.type_list_append mt_append (pv 3) (pa_cons (pe_op op_cat (pe_op op_cat (pe_lc (own := [("j", 5)]) (g := gName 5) (tt := tYes) rfl nd (pi_range1 (by rfl) G.range_ (pa_cons (pv 4) pa_nil)) (blkOk_by (own := [("j", 5)]) (N := n_law_resultant) (sc := (defScope s_law_resultant)) (by decide +kernel)) (fun _ _ _ _ _ => (pg_name (i := 5) nd rfl (Or.inl rfl))) (fun _ _ _ _ _ => pts_nil) (fun _ _ _ _ _ => pe_int)) (pe_callTy (r := rLstK K) call_list_of (by rfl) G.list_ (by decide +kernel) (pa_cons (pv 0) pa_nil))) (pe_lc (own := [("j", 5)]) (g := gName 5) (tt := tYes) rfl nd (pi_range1 (by rfl) G.range_ (pa_cons (pe_op op_sub (pe_op op_sub (pv 2) (pv 4)) (pe_callB (r := rLenK K) call_len_seq (by rfl) G.len_ PySem.boot_len (pa_cons (pv 0) pa_nil))) pa_nil)) (blkOk_by (own := [("j", 5)]) (N := n_law_resultant) (sc := (defScope s_law_resultant)) (by decide +kernel)) (fun _ _ _ _ _ => (pg_name (i := 5) nd rfl (Or.inl rfl))) (fun _ _ _ _ _ => pts_nil) (fun _ _ _ _ _ => pe_int))) pa_nil)))))
  (pss_cons (ps_for PassesOwn.never rfl (pi_range1 (by rfl) G.range_ (pa_cons (pe_op op_sub (pe_callB (r := rLenK K) call_len_seq (by rfl) G.len_ PySem.boot_len (pa_cons (pv 0) pa_nil)) pe_int) pa_nil)) (pg_name (i := 4) nd rfl (Or.inl rfl)) (pss_one (ps_expr (pe_bm PySem.F.plainAttrs_list PySem.F.slot_list_append PySem.F.type_list_append mt_append (pv 3) (pa_cons (pe_op op_cat (pe_op op_cat (pe_lc (own := [("j", 5)]) (g := gName 5) (tt := tYes) rfl nd (pi_range1 (by rfl) G.range_ (pa_cons (pv 4) pa_nil)) (blkOk_by (own := [("j", 5)]) (N := n_law_resultant) (sc := (defScope s_law_resultant)) (by decide +kernel)) (fun _ _ _ _ _ => (pg_name (i := 5) nd rfl (Or.inl rfl))) (fun _ _ _ _ _ => pts_nil) (fun _ _ _ _ _ => pe_int)) (pe_callTy (r := rLstK K) call_list_of (by rfl) G.list_ (by decide +kernel) (pa_cons (pv 1) pa_nil))) (pe_lc (own := [("j", 5)]) (g := gName 5) (tt := tYes) rfl nd (pi_range1 (by rfl) G.range_ (pa_cons (pe_op op_sub (pe_op op_sub (pv 2) (pv 4)) (pe_callB (r := rLenK K) call_len_seq (by rfl) G.len_ PySem.boot_len (pa_cons (pv 1) pa_nil))) pa_nil)) (blkOk_by (own := [("j", 5)]) (N := n_law_resultant) (sc := (defScope s_law_resultant)) (by decide +kernel)) (fun _ _ _ _ _ => (pg_name (i := 5) nd rfl (Or.inl rfl))) (fun _ _ _ _ _ => pts_nil) (fun _ _ _ _ _ => pe_int))) pa_nil)))))
  (pss_one (ps_ret (pe_calK C_law_determinant rfl rfl rfl rfl rfl (hr.mono (by decide)) (by rfl) (pa_cons (pv 3) pa_nil)))))))), ?_⟩
  try dsimp only [cxOf, L2.Cx.nox, L2.Cx.wish, L2.Cx.blk]
  rintro ds w R ⟨b, l, r, rfl, hl, hr0, hlr, hsl, hsr, hbn, q⟩
  repeat' walk_at "dl"
  refine xd_lst ?_
  repeat' walk_at "dl"
  refine ⟨by decide, fun p hp => ?_⟩
  repeat' walk_at "dl"
  generalize hM : l.length + r.length - 2 = m at *
  have hmm : (l.length : Int) + (r.length : Int) - 2 = (m : Int) := by omega
  rw [hmm]
  refine sd_to (fun ρ' w' => ∃ o4 o5 : Option Dat, ρ' = [some (dI l), some (dI r), some (.int m), some (.obj p), o4, o5] ∧ w' = w.put p (dM (tabM (r.length - 1) fun k => pad m k l))) ?_ ?_
  · refine sd_forR1 ?_
    repeat' walk_at "dl"
    refine ⟨by omega, by omega, fun i ρ' w' => ∃ o4 o5 : Option Dat, ρ' = [some (dI l), some (dI r), some (.int m), some (.obj p), o4, o5] ∧ w' = w.put p (dM (tabM i fun k => pad m k l)), ⟨none, none, rfl, rfl⟩, ?_, ?_⟩
    · rintro i ρ' w' hi ⟨o4, o5, rfl, rfl⟩
      have htl : (tabM i fun k => pad m k l).length = i := Mat.tabM_length
      repeat' walk_at "dl"
      refine xd_lcR1I (gw_name (by decide)) ?_
      repeat' walk_at "dl"
      refine ⟨_, fun _ => 0, rfl, by omega, by omega, fun i w' hi hs => ?_, ?_⟩
      · repeat' walk_at "dl"
      repeat' walk_at "dl"
      refine xd_lcR1I (gw_name (by decide)) ?_
      repeat' walk_at "dl"
      refine ⟨_, fun _ => 0, rfl, by omega, by omega, fun i w' hi hs => ?_, ?_⟩
      · repeat' walk_at "dl"
      repeat' walk_at "dl"
      have e : (tab (i : Int).toNat fun _ => 0) ++ l ++ (tab ((m : Int) - (i : Int) - (l.length : Int)).toNat fun _ => 0) = pad m i l := by
        unfold Mat.pad
        rw [Int.toNat_natCast, show ((m : Int) - (i : Int) - (l.length : Int)).toNat = m - i - l.length by omega]
      rw [e]
      repeat' walk_at "dl"
      rw [Wd.put_put, Mat.tabM_snoc]
    rintro ρ' w' ⟨o4, o5, rfl, rfl⟩
    exact ⟨o4, o5, rfl, by rw [show ((r.length : Int) - 1).toNat = r.length - 1 by omega]⟩
  rintro ρ' w' ⟨o4, o5, rfl, rfl⟩
  generalize hA : (tabM (r.length - 1) fun k => pad m k l) = A at *
  have hAl : A.length = r.length - 1 := by rw [← hA, Mat.tabM_length]
  refine sd_cut (fun ρ' w' => ∃ o4 o5 : Option Dat, ρ' = [some (dI l), some (dI r), some (.int m), some (.obj p), o4, o5] ∧ w' = w.put p (dM (A ++ tabM (l.length - 1) fun k => pad m k r))) ?_ ?_
  · refine sd_forR1 ?_
    repeat' walk_at "dl"
    refine ⟨by omega, by omega, fun i ρ' w' => ∃ o4 o5 : Option Dat, ρ' = [some (dI l), some (dI r), some (.int m), some (.obj p), o4, o5] ∧ w' = w.put p (dM (A ++ tabM i fun k => pad m k r)), ⟨_, _, rfl, by show _ = w.put p (dM (A ++ [])); rw [List.append_nil]⟩, ?_, ?_⟩
    · rintro i ρ' w' hi ⟨o4, o5, rfl, rfl⟩
      have htl : (A ++ tabM i fun k => pad m k r).length = r.length - 1 + i := by rw [List.length_append, Mat.tabM_length, hAl]
      repeat' walk_at "dl"
      refine xd_lcR1I (gw_name (by decide)) ?_
      repeat' walk_at "dl"
      refine ⟨_, fun _ => 0, rfl, by omega, by omega, fun i w' hi hs => ?_, ?_⟩
      · repeat' walk_at "dl"
      repeat' walk_at "dl"
      refine xd_lcR1I (gw_name (by decide)) ?_
      repeat' walk_at "dl"
      refine ⟨_, fun _ => 0, rfl, by omega, by omega, fun i w' hi hs => ?_, ?_⟩
      · repeat' walk_at "dl"
      repeat' walk_at "dl"
      have e : (tab (i : Int).toNat fun _ => 0) ++ r ++ (tab ((m : Int) - (i : Int) - (r.length : Int)).toNat fun _ => 0) = pad m i r := by
        unfold Mat.pad
        rw [Int.toNat_natCast, show ((m : Int) - (i : Int) - (r.length : Int)).toNat = m - i - r.length by omega]
      rw [e]
      repeat' walk_at "dl"
      rw [Wd.put_put, List.append_assoc, Mat.tabM_snoc]
    rintro ρ' w' ⟨o4, o5, rfl, rfl⟩
    exact ⟨o4, o5, rfl, by rw [show ((l.length : Int) - 1).toNat = l.length - 1 by omega]⟩
  rintro ρ' w' ⟨o4, o5, rfl, rfl⟩
  have hS : A ++ (tabM (l.length - 1) fun k => pad m k r) = sylL l r := by
    rw [← hA, ← hM]
    rfl
  rw [hS]
  have hSl : (sylL l r).length = m := by rw [Mat.sylL_length hl hr0, hM]
  refine sd_frz (n := 3) rfl Wd.put_same ?_
  rw [Wd.del_put hp]
  repeat' walk_at "dl"
  have hent : D m (ent (sylL l r)) = D m (syl l r) := Mat.D_congr fun p hp c hc => Mat.sylL_ent hl hr0 (by omega) c
  refine ⟨b, sylL l r, rfl, by omega, fun j hj => ?_, fun p hp c hc => ?_, by rw [hSl]; omega, by rw [hSl, hent]; exact q⟩
  · rw [hSl, Mat.sylL_row hl hr0 (by omega), hM]
  · rw [Mat.sylL_ent hl hr0 (by omega)]
    show Bt b (if p < r.length - 1 then (if p ≤ c then l.getD (c - p) 0 else 0) else (if p - (r.length - 1) ≤ c then r.getD (c - (p - (r.length - 1))) 0 else 0))
    split
    · split
      · exact hsl _
      · exact Bt.zero
    · split
      · exact hsr _
      · exact Bt.zero
end
end K67
set_option Elab.async false
set_option linter.all false
set_option maxRecDepth 100000
set_option maxHeartbeats 4000000
namespace K67
open PySem PySem.Spec PyProof.Rows L2 DL
open Mat (tab tab_length tab_at trimP mulP subP Tr T RT)
local macro_rules | `(tactic| walk_at "wd") => `(tactic| first
  | exact Wd.put_same
  | exact Wd.at2 (by assumption)
  | assumption
  | exact Wd.put_of (by assumption) (by assumption)
  | exact Wd.put_of (by assumption) (Wd.put_of (by assumption) (by assumption))
  | fail "no world")
local macro_rules | `(tactic| walk_at "sd") => `(tactic| first
  | with_reducible refine sd_seq ?_
  | with_reducible refine sd_set ?_
  | with_reducible refine sd_asg ?_
  | with_reducible refine gd_name ?_
  | with_reducible refine sd_ret ?_
  | with_reducible refine sd_drop ?_
  | with_reducible refine sd_if ?_
  | with_reducible refine sd_par ?_
  | with_reducible refine sd_next ?_
  | with_reducible refine sd_break ?_
  | with_reducible refine sd_aug rfl ?_
  | fail "no step")
local macro_rules | `(tactic| walk_at "ix") => `(tactic| (with_reducible show OD _ (rIx _) _ _ _ _) <;> first
  | refine od_ix (.tup _) rfl ?_
  | refine od_ix (.lst [_, _, _, _]) rfl ?_
  | (refine od_ix (ds := ?dsx) (.obj ?hx) ?hy ?_; (case hx => walk_at "wd"); (case hy => exact rfl))
  | (refine od_ixLast (.lst _) ?_ ?_; (focus omega))
  | (refine od_ixLast (ns := ?nsx) (.obj ?hx) ?ha ?_; (case hx => walk_at "wd"); (case ha => omega))
  | (refine od_ixI (.lst _) ?_ ?_ ?_; (focus omega); (focus omega))
  | (refine od_ixM (.lst _) ?_ ?_ ?_; (focus omega); (focus omega))
  | (refine od_ixI (ns := ?nsx) (.obj ?hx) ?ha ?hb ?_; (case hx => walk_at "wd"); (case ha => omega); (case hb => omega))
  | (refine od_ixM (rows := ?nsx) (.obj ?hx) ?ha ?hb ?_; (case hx => walk_at "wd"); (case ha => omega); (case hb => omega))
  | fail "no index")
local macro_rules | `(tactic| walk_at "dl") => `(tactic| first
  | walk_at "sd"
  | with_reducible refine xd_int ?_
  | with_reducible refine xd_bl ?_
  | with_reducible refine xd_non ?_
  | with_reducible refine xd_str ?_
  | with_reducible refine xd_ty ?_
  | with_reducible refine xd_op ?_
  | with_reducible refine xd_un ?_
  | with_reducible refine xd_if ?_
  | with_reducible refine xd_tup ?_
  | with_reducible refine xd_cb ?_
  | with_reducible refine xd_call ?_
  | with_reducible refine xd_bm ?_
  | with_reducible refine xd_bm0 ?_
  | (refine And.intro (ty_list (ds := ?dsx) (.obj ?hx)) ?_; (case hx => walk_at "wd"))
  | (refine md_appI (ns := ?nsx) ?hx ?ha ?_; (case hx => walk_at "wd"); (case ha => omega))
  | (refine md_appM (rows := ?nsx) ?hx ?ha ?_; (case hx => walk_at "wd"); (case ha => omega))
  | (refine md_popI (ns := ?nsx) ?hx ?ha ?_; (case hx => walk_at "wd"); (case ha => omega))
  | with_reducible refine ad_nil ?_
  | with_reducible refine ad_cons ?_
  | with_reducible refine td_test ?_
  | with_reducible refine td_B ?_
  | with_reducible refine td_and ?_
  | with_reducible refine td_or ?_
  | with_reducible refine td_not ?_
  | with_reducible refine xd_andV ?_
  | with_reducible refine xd_orV ?_
  | with_reducible refine xd_notV ?_
  | with_reducible refine xd_sliceF ?_
  | with_reducible refine pd_none ?_
  | with_reducible refine pd_some ?_
  | with_reducible refine od_add ?_
  | with_reducible refine od_sub ?_
  | (with_reducible refine od_fdivR ?_ ?_; (focus omega))
  | (with_reducible refine od_modN ?_ ?_; (focus omega))
  | (with_reducible refine od_mulX ?_ ?_; (focus (refine mulB (by assumption) (by assumption) (by omega))))
  | with_reducible refine od_mulX ?_ ?_
  | (with_reducible refine od_mul ?_ ?_; (focus (first | exact Or.inl (by omega) | exact Or.inr (by omega))))
  | with_reducible refine od_lt ?_
  | with_reducible refine od_le ?_
  | with_reducible refine od_gt ?_
  | with_reducible refine od_ge ?_
  | with_reducible refine od_eqI ?_
  | with_reducible refine od_neI ?_
  | (refine od_eqL (.lst _) (.lst _) ?_; (focus skip))
  | (refine od_neL (.lst _) (.lst _) ?_; (focus skip))
  | refine od_isL ?_
  | with_reducible refine ud_neg ?_
  | with_reducible refine id_I ?_
  | refine cd_isi (b := true) (.int _) (by with_unfolding_all rfl) ?_
  | refine cd_isi (b := false) (.int _) (by with_unfolding_all rfl) ?_
  | refine cd_isi (b := true) (.lst _) (by with_unfolding_all rfl) ?_
  | with_reducible refine cd_max2 ?_
  | with_reducible refine cd_abs ?_
  | with_reducible refine cd_int1 ?_
  | with_reducible refine cd_intB ?_
  | refine cd_lenI (.lst _) ?_
  | refine cd_lenM (.lst _) ?_
  | (refine cd_lenI (ns := ?nsx) (.obj ?hx) ?_; (case hx => walk_at "wd"))
  | (refine cd_lenM (rows := ?nsx) (.obj ?hx) ?_; (case hx => walk_at "wd"))
  | refine cd_listF (.lst _) ?_
  | (refine cd_listF (ds := ?dsx) (.obj ?hx) ?_; (case hx => walk_at "wd"))
  | (refine od_catI (.lst _) (.lst _) ?_ ?_; (focus (first | omega | (simp only [List.length_append, List.length_map, tab_length]; omega))))
  | walk_at "ix"
  | with_reducible refine xd_var rfl ?_
  | with_reducible refine And.intro rfl ?_
  | with_reducible refine ⟨_, rfl, ?_⟩
  | with_reducible refine ⟨_, _, rfl, ?_⟩
  | (with_reducible refine And.intro (fun hb => ?_) (fun hb => ?_) <;> (try (exact absurd hb (by decide))) <;> (try simp only [decide_eq_true_eq, decide_eq_false_iff_not, Bool.not_eq_true', Bool.not_eq_false', Bool.true_eq_false, Bool.false_eq_true, Bool.not_eq_true, Bool.not_eq_false, Int.not_lt, Int.not_le] at hb))
  | with_reducible exact rfl
  | fail "no step")
local macro_rules | `(tactic| walk_at "ix") => `(tactic| (with_reducible show OD _ (rIx _) _ (.int (Nat.cast _)) _ _) <;> first
  | (refine od_ixIN (.lst _) ?_ ?_; (focus omega))
  | (refine od_ixMN (.lst _) ?_ ?_; (focus omega))
  | (refine od_ixIN (ns := ?nsx) (.obj ?hx) ?ha ?_; (case hx => walk_at "wd"); (case ha => omega))
  | (refine od_ixMN (rows := ?nsx) (.obj ?hx) ?ha ?_; (case hx => walk_at "wd"); (case ha => omega))
  | fail "no index")
theorem bt_RT {n m : Nat} {L o : List Int} (ho : Tr o) (h0 : 0 < o.length) (h1 : Sz n (mulP L o)) (h2 : Sz m o) : ∀ t, t ≤ L.length → (∀ i, Bt (n + t * (m + 1)) (RT L o t i)) ∧ ∀ j, L.length - t ≤ j → Bt (n + t * (m + 1)) (L.getD j 0)
  | 0, _ => ⟨fun i => by rw [Nat.zero_mul, Mat.RT_zero]; exact h1 i, fun j hj => by rw [Mat.getD_over (by omega)]; exact Bt.zero⟩
  | t + 1, ht => by
    have ih := bt_RT ho h0 h1 h2 t (by omega)
    have hL : Bt (n + t * (m + 1)) (L.getD (L.length - 1 - t) 0) := by
      have e := Mat.RT_top (L := L) (o := o) (t := t) (by omega) h0
      have hb := ih.1 (L.length - 1 - t + (o.length - 1))
      refine hb.le ?_
      rw [e, Int.natAbs_mul]
      have := ho h0
      exact Nat.le_mul_of_pos_right _ (by omega)
    refine ⟨fun i => ?_, fun j hj => ?_⟩
    · rw [Mat.RT_step (by omega)]
      have h3 : Bt (n + t * (m + 1) + m) (L.getD (L.length - 1 - t) 0 * (if L.length - 1 - t ≤ i then o.getD (i - (L.length - 1 - t)) 0 else 0)) := by
        refine hL.mul ?_
        split
        · exact h2 _
        · exact Bt.zero
      have h4 := ((ih.1 i).mono (show _ ≤ n + t * (m + 1) + m by omega)).sub h3
      exact h4.mono (by rw [Nat.add_mul, Nat.one_mul]; omega)
    · by_cases e : j = L.length - 1 - t
      · rw [e]; exact hL.mono (by rw [Nat.add_mul, Nat.one_mul]; omega)
      · exact (ih.2 j (by omega)).mono (by rw [Nat.add_mul, Nat.one_mul]; omega)
theorem sz_quo {n m : Nat} {L o : List Int} (ho : Tr o) (h0 : 0 < o.length) (h1 : Sz n (mulP L o)) (h2 : Sz m o) : Sz (n + L.length * (m + 1)) L := fun k => (bt_RT ho h0 h1 h2 L.length (Nat.le_refl _)).2 k (by omega)
section
variable {P : Program} {wo : World} {K : PySem.W.Frag} {mg : Str → Option Value} {base : Heap}
def fs_lquo : FS := fun ds w Q => ∃ (n m : Nat) (L o : List Int), ds = [dI (mulP L o), dI o] ∧ Tr o ∧ 0 < o.length ∧ 0 < L.length ∧ L.length ≤ 500 ∧ o.length ≤ 500 ∧ Sz n (mulP L o) ∧ Sz m o ∧ n + L.length * (m + 1) + m ≤ 60000000 ∧ Q (dI L) w
theorem ok_law_quotient (G : Bltn mg) (hS : base.NoSeer) (hT : P.given.tree = none) {f : Addr} {fd : FuncData} (F : Fun K "_law_quotient" "_law_quotient" s_law_quotient f fd) : FnOk P wo K mg base CX0 41 f fd ["one", "other"] (spOf K fs_lquo) := by
  have nd := sc_law_quotient.nd
  refine fn_ok F sc_law_quotient (fun ds w Q h => ?_) fun cdv A outer s H E hr => ?_
  · obtain ⟨_, _, _, _, rfl, _⟩ := h
    rfl
  have hp := plain_of (N := n_law_quotient) (wo := wo) (K := K) (mg := mg) (outer := outer) (H := H) (E := E) hS hT hr (by decide) rfl rfl
  refine ⟨_, (pss_cons (ps_set (i := 2) nd rfl (Or.inl rfl) (pe_callTy (r := rLstK K) call_list_of (by rfl) G.list_ (by decide +kernel) (pa_cons (pv 0) pa_nil)))
  (pss_cons (ps_setLc (i := 3) (own := [("k", 4)]) (g := gName 4) (tt := tYes) rfl nd rfl rfl (sw_true rfl rfl rfl (by decide +kernel)) (pi_range1 (by rfl) G.range_ (pa_cons (pe_callB (call_max2 rfl) (by rfl) G.max_ (by decide +kernel) (pa_cons pe_int (pa_cons (pe_op op_add (pe_op op_sub (pe_callB (r := rLenK K) call_len_seq (by rfl) G.len_ PySem.boot_len (pa_cons (pv 0) pa_nil)) (pe_callB (r := rLenK K) call_len_seq (by rfl) G.len_ PySem.boot_len (pa_cons (pv 1) pa_nil))) pe_int) pa_nil))) pa_nil)) (blkOk_by (own := [("k", 4)]) (N := n_law_quotient) (sc := (defScope s_law_quotient)) (by decide +kernel)) (fun _ _ _ _ _ => (pg_name (i := 4) nd rfl (Or.inl rfl))) (fun _ _ _ _ _ => pts_nil) (fun _ _ _ _ _ => pe_int))
  (pss_cons (ps_for PassesOwn.never rfl (pi_range1 (by rfl) G.range_ (pa_cons (pe_callB (r := rLenK K) call_len_seq (by rfl) G.len_ PySem.boot_len (pa_cons (pv 3) pa_nil)) pa_nil)) (pg_name (i := 4) nd rfl (Or.inl rfl)) (pss_cons (ps_set (i := 5) nd rfl (Or.inl rfl) (pe_op op_sub (pe_op op_sub (pe_callB (r := rLenK K) call_len_seq (by rfl) G.len_ PySem.boot_len (pa_cons (pv 3) pa_nil)) pe_int) (pv 4)))
  (pss_cons (ps_set (i := 6) nd rfl (Or.inl rfl) (pe_ix (r := rIx K) ix_seq (pv 2) (pe_op op_sub (pe_op op_add (pv 5) (pe_callB (r := rLenK K) call_len_seq (by rfl) G.len_ PySem.boot_len (pa_cons (pv 1) pa_nil))) pe_int) (fun _ _ => rfl)))
  (pss_cons (ps_set (i := 7) nd rfl (Or.inl rfl) (pe_op (op_fdivR hp) (pv 6) (pe_ix (r := rIx K) ix_seq (pv 1) (pe_un un_neg pe_int) (fun _ _ => rfl))))
  (pss_cons (ps_if (pt_cmpR op_ne (pe_op op_mulX (pv 7) (pe_ix (r := rIx K) ix_seq (pv 1) (pe_un un_neg pe_int) (fun _ _ => rfl))) (pv 6) (nomark _)) (pss_one (ps_ret pe_non)) pss_nil)
  (pss_cons (ps_asg (pv 7) (pg_sub (pv 3) (pv 5) set_list))
  (pss_one (ps_for PassesOwn.never rfl (pi_range1 (by rfl) G.range_ (pa_cons (pe_callB (r := rLenK K) call_len_seq (by rfl) G.len_ PySem.boot_len (pa_cons (pv 1) pa_nil)) pa_nil)) (pg_name (i := 8) nd rfl (Or.inl rfl)) (pss_one (ps_augS (pv 2) (pe_op op_add (pv 5) (pv 8)) get_list (pe_op op_mulX (pv 7) (pe_ix (r := rIx K) ix_seq (pv 1) (pv 8) (fun _ _ => rfl))) ip_sub set_list))))))))))
  (pss_cons (ps_if (pt_val (pe_callB (r := rAny K) (cr_any rfl) (by rfl) G.any_ (by decide +kernel) (pa_cons (pe_lc (own := [("number", 9)]) (g := gName 9) (tt := tYes) rfl nd (pi_listK (K := K) rfl (pv 2)) (blkOk_by (own := [("number", 9)]) (N := n_law_quotient) (sc := (defScope s_law_quotient)) (by decide +kernel)) (fun _ _ _ _ _ => (pg_name (i := 9) nd rfl (Or.inl rfl))) (fun _ _ _ _ _ => pts_nil) (fun _ _ _ _ _ => (pe_cmpR op_ne (pv 9) pe_int (nomark _)))) pa_nil))) (pss_one (ps_ret pe_non)) pss_nil)
  (pss_one (ps_ret (pv 3))))))), ?_⟩
  try dsimp only [cxOf, L2.Cx.nox, L2.Cx.wish, L2.Cx.blk]
  rintro ds w R ⟨n, m, L, o, rfl, hto, ho0, hL0, hL5, ho5, hs1, hs2, hnm, q⟩
  have hlen : (mulP L o).length = L.length + o.length - 1 := Mat.mulP_len_eq hL0 ho0
  generalize hone : mulP L o = one at *
  refine sd_rf ?_
  refine sd_seq (sd_set ?_)
  refine xd_cb (ad_cons (xd_var rfl (ad_nil (cd_list (.lst _) fun p hpn => ?_))))
  have hfl : (if (one.length : Int) - (o.length : Int) + 1 > 0 then (one.length : Int) - (o.length : Int) + 1 else 0) = (L.length : Int) := by
    rw [if_pos (by omega)]; omega
  repeat' walk_at "dl"
  refine xd_lcR1J (gw_name (by decide)) ?_
  repeat' walk_at "dl"
  rw [hfl]
  refine ⟨_, fun _ => 0, rfl, by omega, by omega, fun i w' hi hs => ?_, fun p2 hpn2 => ?_⟩
  · repeat' walk_at "dl"
  have hne : p ≠ p2 := Wd.new_ne hpn2
  have hp2 : w p2 = none := Wd.new_old hpn2
  rw [Int.toNat_natCast]
  have htl : (tab L.length fun _ => 0).length = L.length := tab_length
  have hol := hto ho0
  repeat' walk_at "dl"
  refine sd_to (fun ρ' w' => ∃ (ns : List Int) (o4 o5 o6 o7 o8 o9 : Option Dat), ρ' = [some (dI one), some (dI o), some (.obj p), some (.obj p2), o4, o5, o6, o7, o8, o9] ∧ w' = (w.put p (ns.map .int)).put p2 (L.map .int) ∧ ns.length = one.length ∧ ∀ i, ns.getD i 0 = 0) ?_ ?_
  · refine sd_forR1 ?_
    repeat' walk_at "dl"
    rw [htl]
    refine ⟨by omega, by omega, fun t ρ' w' => ∃ (ns fs : List Int) (o4 o5 o6 o7 o8 o9 : Option Dat), ρ' = [some (dI one), some (dI o), some (.obj p), some (.obj p2), o4, o5, o6, o7, o8, o9] ∧ w' = (w.put p (ns.map .int)).put p2 (fs.map .int) ∧ ns.length = one.length ∧ (∀ i, ns.getD i 0 = RT L o t i) ∧ fs.length = L.length ∧ ∀ i, fs.getD i 0 = if L.length - t ≤ i then L.getD i 0 else 0, ⟨one, tab L.length fun _ => 0, none, none, none, none, none, none, rfl, rfl, rfl, fun i => ?_, tab_length, fun i => ?_⟩, ?_, ?_⟩
    · rw [Mat.RT_zero, ← hone]; rfl
    · rw [tab_at]
      by_cases h : i < L.length
      · rw [if_pos h, if_neg (by omega)]
      · rw [if_neg h, if_pos (by omega), Mat.getD_over (by omega)]
    · rintro t ρ' w' ht ⟨ns, fs, o4, o5, o6, o7, o8, o9, rfl, rfl, hns, hnv, hfs, hfv⟩
      have ht' : t < L.length := by omega
      have hb := bt_RT hto ho0 (by rw [hone]; exact hs1) hs2 t (by omega)
      have hb1 := bt_RT hto ho0 (by rw [hone]; exact hs1) hs2 (t + 1) (by omega)
      have hmul : t * (m + 1) ≤ L.length * (m + 1) := Nat.mul_le_mul_right _ (by omega)
      have hmul1 : (t + 1) * (m + 1) ≤ L.length * (m + 1) := Nat.mul_le_mul_right _ (by omega)
      have hLb : Bt (n + (t + 1) * (m + 1)) (L.getD (L.length - 1 - t) 0) := hb1.2 _ (by omega)
      refine gd_name ?_
      have ix1 : ((L.length : Int) - 1 - (t : Int)) = ((L.length - 1 - t : Nat) : Int) := by omega
      have ix2 : (((L.length - 1 - t : Nat) : Int) + (o.length : Int) - 1) = ((L.length - 1 - t + (o.length - 1) : Nat) : Int) := by omega
      have hlead : ns.getD (L.length - 1 - t + (o.length - 1)) 0 = o.getD (o.length - 1) 0 * L.getD (L.length - 1 - t) 0 := by
        rw [hnv, Mat.RT_top ht' ho0, Int.mul_comm]
      generalize hpl : L.length - 1 - t = pl at *
      refine sd_cut (fun ρ' w' => ρ' = [some (dI one), some (dI o), some (.obj p), some (.obj p2), some (.int t), some (.int pl), o6, o7, o8, o9] ∧ w' = (w.put p (ns.map .int)).put p2 (fs.map .int)) ?_ ?_
      · repeat' walk_at "dl"
        exact ⟨by rw [hfs, ix1]; rfl, rfl⟩
      rintro ρ' w' ⟨rfl, rfl⟩
      refine sd_cut (fun ρ' w' => ρ' = [some (dI one), some (dI o), some (.obj p), some (.obj p2), some (.int t), some (.int pl), some (.int (o.getD (o.length - 1) 0 * L.getD pl 0)), o7, o8, o9] ∧ w' = (w.put p (ns.map .int)).put p2 (fs.map .int)) ?_ ?_
      · repeat' walk_at "dl"
        rw [ix2, Int.toNat_natCast, hlead]
        exact ⟨rfl, rfl⟩
      rintro ρ' w' ⟨rfl, rfl⟩
      refine sd_cut (fun ρ' w' => ρ' = [some (dI one), some (dI o), some (.obj p), some (.obj p2), some (.int t), some (.int pl), some (.int (o.getD (o.length - 1) 0 * L.getD pl 0)), some (.int (L.getD pl 0)), o8, o9] ∧ w' = (w.put p (ns.map .int)).put p2 (fs.map .int)) ?_ ?_
      · repeat' walk_at "dl"
        rw [Mat.fdiv_of hol rfl]
        exact ⟨rfl, rfl⟩
      rintro ρ' w' ⟨rfl, rfl⟩
      repeat' walk_at "dl"
      · exact mulB hLb (hs2 _) (by omega)
      · rw [Int.mul_comm (L.getD pl 0)] at *
        exact absurd rfl ‹¬ _ = _›
      refine gd_subI ?_
      repeat' walk_at "dl"
      refine ⟨p2, fs, _, rfl, rfl, Wd.put_same, by omega, by omega, ?_⟩
      rw [Int.toNat_natCast, Wd.put_put]
      repeat' walk_at "dl"
      refine sd_forR1 ?_
      repeat' walk_at "dl"
      refine ⟨by omega, by omega, fun j ρ' w' => ∃ (ns : List Int) (o8 : Option Dat), ρ' = [some (dI one), some (dI o), some (.obj p), some (.obj p2), some (.int t), some (.int pl), some (.int (o.getD (o.length - 1) 0 * L.getD pl 0)), some (.int (L.getD pl 0)), o8, o9] ∧ w' = (w.put p (ns.map .int)).put p2 ((fs.set pl (L.getD pl 0)).map .int) ∧ ns.length = one.length ∧ ∀ i, ns.getD i 0 = RT L o t i - if pl ≤ i ∧ i - pl < j then L.getD pl 0 * o.getD (i - pl) 0 else 0, ⟨ns, o8, rfl, rfl, hns, fun i => by rw [hnv, if_neg (by omega)]; omega⟩, ?_, ?_⟩
      · rintro j ρ' w' hj ⟨ns, o8, rfl, rfl, hns, hnv⟩
        repeat' walk_at "dl"
        refine sd_augI ?_
        repeat' walk_at "dl"
        refine ⟨p, ns, _, rfl, rfl, Wd.at2 hne, by omega, by omega, ?_⟩
        repeat' walk_at "dl"
        · exact mulB hLb (hs2 _) (by omega)
        refine ⟨ns.set ((pl : Int) + (j : Int)).toNat _, _, rfl, by rw [Wd.set2 hne], by rw [List.length_set]; exact hns, fun i => ?_⟩
        rw [show ((pl : Int) + (j : Int)).toNat = pl + j by omega, getD_set i (by omega), hnv, hnv]
        by_cases e : i = pl + j
        · subst e
          rw [if_pos rfl, if_neg (by omega), if_pos (by omega), show pl + j - pl = j by omega]
          show _ - _ - _ = _
          rw [Int.sub_zero]
        · rw [if_neg e]
          by_cases e2 : pl ≤ i ∧ i - pl < j
          · rw [if_pos e2, if_pos (by omega)]
          · rw [if_neg e2, if_neg (by omega)]
      rintro ρ' w' ⟨ns, o8, rfl, rfl, hns, hnv⟩
      rw [Int.toNat_natCast] at hnv
      refine ⟨ns, fs.set pl (L.getD pl 0), _, _, _, _, _, _, rfl, rfl, hns, fun i => ?_, by rw [List.length_set]; exact hfs, fun i => ?_⟩
      · rw [hnv, Mat.RT_step ht', hpl]
        by_cases e : pl ≤ i
        · rw [if_pos e]
          by_cases e2 : i - pl < o.length
          · rw [if_pos ⟨e, e2⟩]
          · rw [if_neg (by omega), Mat.getD_over (l := o) (n := i - pl) (by omega), Int.mul_zero]
        · rw [if_neg e, if_neg (by omega), Int.mul_zero]
      · rw [getD_set i (by omega), hfv]
        by_cases e : i = pl
        · rw [if_pos e, if_pos (by omega), e]
        · rw [if_neg e]
          by_cases e2 : L.length - t ≤ i
          · rw [if_pos e2, if_pos (by omega)]
          · rw [if_neg e2, if_neg (by omega)]
    rintro ρ' w' ⟨ns, fs, o4, o5, o6, o7, o8, o9, rfl, rfl, hns, hnv, hfs, hfv⟩
    rw [Int.toNat_natCast] at *
    have e : fs = L := Mat.list_ext hfs fun i _ => by rw [hfv, if_pos (by omega)]
    rw [e]
    exact ⟨ns, _, _, _, _, _, _, rfl, rfl, hns, fun i => by rw [hnv, Mat.RT_all]⟩
  rintro ρ' w' ⟨ns, o4, o5, o6, o7, o8, o9, rfl, rfl, hns, hnv⟩
  refine sd_frz (n := 2) rfl (Wd.at2 hne) ?_
  rw [Wd.del2 hne hpn]
  repeat' walk_at "dl"
  refine xd_lcLG (gw_name (by decide)) ?_
  repeat' walk_at "dl"
  refine ⟨_, .lst _, by rw [List.length_map]; omega, fun _ => .bl false, fun i x w' hx hw => ?_, ?_⟩
  · rw [List.getElem?_map] at hx
    obtain ⟨a, ha, rfl⟩ := Option.map_eq_some_iff.mp hx
    have e : a = 0 := by
      have := hnv i
      rw [List.getD_eq_getElem?_getD, ha] at this
      exact this
    subst e
    repeat' walk_at "dl"
    rfl
  repeat' walk_at "dl"
  refine cd_anyI (bs := ns.map fun _ => false) (by rw [List.map_map, List.map_map]; rfl) (.lst _) ?_
  have e : (ns.map fun _ => false).any id = false := by simp
  rw [e]
  repeat' walk_at "dl"
  exact RF.new hp2 q
def fs_quo : FS := fun ds w Q => ∃ (e m : Nat) (L o : List Int), ds = [dI (mulP L o), dI o] ∧ Tr L ∧ Tr o ∧ 0 < o.length ∧ L.length ≤ 500 ∧ o.length ≤ 500 ∧ Sz e L ∧ Sz m o ∧ e + m ≤ 60000000 ∧ Q (dI L) w
theorem ok_poly_quotient (G : Bltn mg) (hS : base.NoSeer) (hT : P.given.tree = none) (C_trim_poly : Cal P wo K mg base 41 "trim_poly" ["row"] fs_trim) (C_poly_minus : Cal P wo K mg base 42 "poly_minus" ["one", "other"] fs_minus) {f : Addr} {fd : FuncData} (F : Fun K "poly_quotient" "poly_quotient" s_poly_quotient f fd) : FnOk P wo K mg base CX0 43 f fd ["one", "other"] (spOf K fs_quo) := by
  have nd := sc_poly_quotient.nd
  refine fn_ok F sc_poly_quotient (fun ds w Q h => ?_) fun cdv A outer s H E hr => ?_
  · obtain ⟨_, _, _, _, rfl, _⟩ := h
    rfl
  have hp := plain_of (N := n_poly_quotient) (wo := wo) (K := K) (mg := mg) (outer := outer) (H := H) (E := E) hS hT hr (by decide) rfl rfl
  refine ⟨_, (pss_cons (ps_set (i := 2) nd rfl (Or.inl rfl) (pe_callTy (r := rLstK K) call_list_of (by rfl) G.list_ (by decide +kernel) (pa_cons (pv 0) pa_nil)))
  (pss_cons (ps_setLc (i := 3) (own := [("k", 6)]) (g := gName 6) (tt := tYes) rfl nd rfl rfl (sw_true rfl rfl rfl (by decide +kernel)) (pi_range1 (by rfl) G.range_ (pa_cons (pe_callB (call_max2 rfl) (by rfl) G.max_ (by decide +kernel) (pa_cons pe_int (pa_cons (pe_op op_add (pe_op op_sub (pe_callB (r := rLenK K) call_len_seq (by rfl) G.len_ PySem.boot_len (pa_cons (pv 0) pa_nil)) (pe_callB (r := rLenK K) call_len_seq (by rfl) G.len_ PySem.boot_len (pa_cons (pv 1) pa_nil))) pe_int) pa_nil))) pa_nil)) (blkOk_by (own := [("k", 6)]) (N := n_poly_quotient) (sc := (defScope s_poly_quotient)) (by decide +kernel)) (fun _ _ _ _ _ => (pg_name (i := 6) nd rfl (Or.inl rfl))) (fun _ _ _ _ _ => pts_nil) (fun _ _ _ _ _ => pe_int))
  (pss_cons (ps_while PassesOwn.never (pt_cmpR op_ge (pe_callB (r := rLenK K) call_len_seq (by rfl) G.len_ PySem.boot_len (pa_cons (pv 2) pa_nil)) (pe_callB (r := rLenK K) call_len_seq (by rfl) G.len_ PySem.boot_len (pa_cons (pv 1) pa_nil)) (nomark _)) (pss_cons (ps_set (i := 4) nd rfl (Or.inl rfl) (pe_op op_sub (pe_callB (r := rLenK K) call_len_seq (by rfl) G.len_ PySem.boot_len (pa_cons (pv 2) pa_nil)) (pe_callB (r := rLenK K) call_len_seq (by rfl) G.len_ PySem.boot_len (pa_cons (pv 1) pa_nil))))
  (pss_cons (ps_set (i := 5) nd rfl (Or.inr rfl) (pe_op (op_fdivR hp) (pe_ix (r := rIx K) ix_seq (pv 2) (pe_un un_neg pe_int) (fun _ _ => rfl)) (pe_ix (r := rIx K) ix_seq (pv 1) (pe_un un_neg pe_int) (fun _ _ => rfl))))
  (pss_cons (ps_asg (pv 5) (pg_sub (pv 3) (pv 4) set_list))
  (pss_one (ps_set (i := 2) nd rfl (Or.inl rfl) (pe_calK C_poly_minus rfl rfl rfl rfl rfl (hr.mono (by decide)) (by rfl) (pa_cons (pv 2) (pa_cons (pe_op op_cat (pe_lc (own := [("k", 6)]) (g := gName 6) (tt := tYes) rfl nd (pi_range1 (by rfl) G.range_ (pa_cons (pv 4) pa_nil)) (blkOk_by (own := [("k", 6)]) (N := n_poly_quotient) (sc := (defScope s_poly_quotient)) (by decide +kernel)) (fun _ _ _ _ _ => (pg_name (i := 6) nd rfl (Or.inl rfl))) (fun _ _ _ _ _ => pts_nil) (fun _ _ _ _ _ => pe_int)) (pe_lc (own := [("number", 7)]) (g := gName 7) (tt := tYes) rfl nd (pi_listK (K := K) rfl (pv 1)) (blkOk_by (own := [("number", 7)]) (N := n_poly_quotient) (sc := (defScope s_poly_quotient)) (by decide +kernel)) (fun _ _ _ _ _ => (pg_name (i := 7) nd rfl (Or.inl rfl))) (fun _ _ _ _ _ => pts_nil) (fun _ _ _ _ _ => (pe_op op_mulX (pv 7) (pv 5))))) pa_nil)))))))))
  (pss_one (ps_ret (pe_calK C_trim_poly rfl rfl rfl rfl rfl (hr.mono (by decide)) (by rfl) (pa_cons (pv 3) pa_nil))))))), ?_⟩
  try dsimp only [cxOf, L2.Cx.nox, L2.Cx.wish, L2.Cx.blk]
  rintro ds w R ⟨e, m, L, o, rfl, htL, hto, ho0, hL5, ho5, hse, hsm, hem, q⟩
  have hlen : 0 < L.length → (mulP L o).length = L.length + o.length - 1 := fun h => Mat.mulP_len_eq h ho0
  have hlen0 : L.length = 0 → (mulP L o).length = 0 := fun h => by rw [Mat.mulP_nil (.inl h)]; rfl
  have hfl : (if ((mulP L o).length : Int) - (o.length : Int) + 1 > 0 then ((mulP L o).length : Int) - (o.length : Int) + 1 else 0) = (L.length : Int) := by
    by_cases h : 0 < L.length
    · have := hlen h
      rw [if_pos (by omega)]; omega
    · have := hlen0 (by omega)
      rw [if_neg (by omega)]; omega
  repeat' walk_at "dl"
  refine xd_lcR1J (gw_name (by decide)) ?_
  repeat' walk_at "dl"
  rw [hfl]
  refine ⟨_, fun _ => 0, rfl, by omega, by omega, fun i w' hi hs => ?_, fun p hpn => ?_⟩
  · repeat' walk_at "dl"
  rw [Int.toNat_natCast]
  repeat' walk_at "dl"
  refine sd_to (fun ρ' w' => ∃ o2 o4 o5 o6 o7 : Option Dat, ρ' = [some (dI (mulP L o)), some (dI o), o2, some (.obj p), o4, o5, o6, o7] ∧ w' = w.put p (L.map .int)) ?_ ?_
  · refine sd_while (J := fun l ρ' w' => ∃ (u : Nat) (fs : List Int) (o4 o5 o6 o7 : Option Dat), l = u ∧ u ≤ L.length ∧ Tr (L.take u) ∧ ρ' = [some (dI (mulP L o)), some (dI o), some (dI (mulP (L.take u) o)), some (.obj p), o4, o5, o6, o7] ∧ w' = w.put p (fs.map .int) ∧ fs.length = L.length ∧ ∀ i, fs.getD i 0 = if u ≤ i then L.getD i 0 else 0) L.length ⟨L.length, tab L.length fun _ => 0, none, none, none, none, rfl, Nat.le_refl _, by rw [List.take_length]; exact htL, by rw [List.take_length]; rfl, rfl, tab_length, fun i => ?_⟩ ?_
    · rw [tab_at]
      by_cases h : i < L.length
      · rw [if_pos h, if_neg (by omega)]
      · rw [if_neg h, if_pos (by omega), Mat.getD_over (by omega)]
    rintro l ρ' w' ⟨u, fs, o4, o5, o6, o7, rfl, hu, htu, rfl, rfl, hfs, hfv⟩
    have htk : (L.take l).length = l := by rw [List.length_take]; omega
    have hml : 0 < l → (mulP (L.take l) o).length = l + o.length - 1 := fun h => by rw [Mat.mulP_len_eq (by omega) ho0, htk]
    have hml0 : l = 0 → (mulP (L.take l) o).length = 0 := fun h => by rw [Mat.mulP_nil (.inl (by omega))]; rfl
    repeat' walk_at "dl"
    · have hl0 : 0 < l := by omega
      have hl1 := hml hl0
      obtain ⟨u, rfl⟩ : ∃ u, l = u + 1 := ⟨l - 1, by omega⟩
      have hd : (mulP (L.take (u + 1)) o).getD ((mulP (L.take (u + 1)) o).length - 1) 0 = o.getD (o.length - 1) 0 * L.getD u 0 := by
        rw [hl1, ← Mat.T_at, Mat.mulP_T, show u + 1 + o.length - 1 - 1 = u + (o.length - 1) by omega, Mat.PS.top (Mat.T_dg (by omega)) (Mat.T_dg (by omega)), Mat.T_at, Mat.T_at, Mat.take_at, if_pos (by omega), Int.mul_comm]
      refine od_fdivR (hto ho0) ?_
      rw [hd, Mat.fdiv_of (hto ho0) rfl]
      have hpl : ((mulP (L.take (u + 1)) o).length : Int) - (o.length : Int) = (u : Int) := by omega
      rw [hpl]
      repeat' walk_at "dl"
      refine gd_subI ?_
      repeat' walk_at "dl"
      refine ⟨p, fs, _, rfl, rfl, Wd.put_same, by omega, by omega, ?_⟩
      rw [Int.toNat_natCast, Wd.put_put]
      repeat' walk_at "dl"
      refine xd_lcR1I (gw_name (by decide)) ?_
      repeat' walk_at "dl"
      refine ⟨_, fun _ => 0, rfl, by omega, by omega, fun i w' hi hs => ?_, ?_⟩
      · repeat' walk_at "dl"
      repeat' walk_at "dl"
      refine xd_lcLI (gw_name (by decide)) ?_
      repeat' walk_at "dl"
      refine ⟨by omega, fun x => x * L.getD u 0, fun x w2 hx hw => ?_, ?_⟩
      · repeat' walk_at "dl"
        exact mulB (hsm.mem hx) (hse _) (by omega)
      repeat' walk_at "dl"
      rw [Int.toNat_natCast]
      refine ⟨_, _, rfl, by omega, by rw [List.length_append, tab_length, List.length_map]; omega, ?_⟩
      rw [Mat.quo_next (by omega) hto rfl]
      obtain ⟨v, hv1, hv2, hv3⟩ := Mat.trim_take (L := L) (u := u) (by omega)
      rw [hv2]
      refine ⟨v, by omega, v, fs.set u (L.getD u 0), _, _, _, _, rfl, by omega, by rw [← hv2]; exact Mat.trimP_Tr, rfl, rfl, by rw [List.length_set]; exact hfs, fun i => ?_⟩
      rw [getD_set i (by omega), hfv]
      by_cases e1 : i = u
      · rw [if_pos e1, if_pos (by omega), e1]
      · rw [if_neg e1]
        by_cases e2 : v ≤ i
        · rw [if_pos e2]
          by_cases e3 : u + 1 ≤ i
          · rw [if_pos e3]
          · rw [if_neg e3, hv3 i e2 (by omega)]
        · rw [if_neg e2, if_neg (by omega)]
    · have hl0 : l = 0 := Nat.eq_zero_of_not_pos fun h => by
        have := hml h
        omega
      have e : fs = L := Mat.list_ext hfs fun i _ => by rw [hfv, if_pos (by omega)]
      rw [e]
      exact ⟨_, _, _, _, _, rfl, rfl⟩
  rintro ρ' w' ⟨o2, o4, o5, o6, o7, rfl, rfl⟩
  refine sd_frz (n := 3) rfl Wd.put_same ?_
  rw [Wd.del_put hpn]
  repeat' walk_at "dl"
  refine ⟨L, rfl, ?_⟩
  rw [Mat.trimP_of htL]
  exact q
end
end K67
set_option Elab.async false
set_option linter.all false
set_option maxRecDepth 100000
set_option maxHeartbeats 4000000
namespace K67
open PySem PySem.Spec PyProof.Rows L2 DL
open Mat (tab tab_length tab_at trimP mulP subP Tr T RT prim cont PL GG)
local macro_rules | `(tactic| walk_at "wd") => `(tactic| first
  | exact Wd.put_same
  | exact Wd.at2 (by assumption)
  | assumption
  | exact Wd.put_of (by assumption) (by assumption)
  | exact Wd.put_of (by assumption) (Wd.put_of (by assumption) (by assumption))
  | fail "no world")
local macro_rules | `(tactic| walk_at "sd") => `(tactic| first
  | with_reducible refine sd_seq ?_
  | with_reducible refine sd_set ?_
  | with_reducible refine sd_asg ?_
  | with_reducible refine gd_name ?_
  | with_reducible refine sd_ret ?_
  | with_reducible refine sd_drop ?_
  | with_reducible refine sd_if ?_
  | with_reducible refine sd_par ?_
  | with_reducible refine sd_next ?_
  | with_reducible refine sd_break ?_
  | with_reducible refine sd_aug rfl ?_
  | fail "no step")
local macro_rules | `(tactic| walk_at "ix") => `(tactic| (with_reducible show OD _ (rIx _) _ _ _ _) <;> first
  | refine od_ix (.tup _) rfl ?_
  | refine od_ix (.lst [_, _, _, _]) rfl ?_
  | (refine od_ix (ds := ?dsx) (.obj ?hx) ?hy ?_; (case hx => walk_at "wd"); (case hy => exact rfl))
  | (refine od_ixLast (.lst _) ?_ ?_; (focus omega))
  | (refine od_ixLast (ns := ?nsx) (.obj ?hx) ?ha ?_; (case hx => walk_at "wd"); (case ha => omega))
  | (refine od_ixI (.lst _) ?_ ?_ ?_; (focus omega); (focus omega))
  | (refine od_ixM (.lst _) ?_ ?_ ?_; (focus omega); (focus omega))
  | (refine od_ixI (ns := ?nsx) (.obj ?hx) ?ha ?hb ?_; (case hx => walk_at "wd"); (case ha => omega); (case hb => omega))
  | (refine od_ixM (rows := ?nsx) (.obj ?hx) ?ha ?hb ?_; (case hx => walk_at "wd"); (case ha => omega); (case hb => omega))
  | fail "no index")
local macro_rules | `(tactic| walk_at "dl") => `(tactic| first
  | walk_at "sd"
  | with_reducible refine xd_int ?_
  | with_reducible refine xd_bl ?_
  | with_reducible refine xd_non ?_
  | with_reducible refine xd_str ?_
  | with_reducible refine xd_ty ?_
  | with_reducible refine xd_op ?_
  | with_reducible refine xd_un ?_
  | with_reducible refine xd_if ?_
  | with_reducible refine xd_tup ?_
  | with_reducible refine xd_cb ?_
  | with_reducible refine xd_call ?_
  | with_reducible refine xd_bm ?_
  | with_reducible refine xd_bm0 ?_
  | (refine And.intro (ty_list (ds := ?dsx) (.obj ?hx)) ?_; (case hx => walk_at "wd"))
  | (refine md_appI (ns := ?nsx) ?hx ?ha ?_; (case hx => walk_at "wd"); (case ha => omega))
  | (refine md_appM (rows := ?nsx) ?hx ?ha ?_; (case hx => walk_at "wd"); (case ha => omega))
  | (refine md_popI (ns := ?nsx) ?hx ?ha ?_; (case hx => walk_at "wd"); (case ha => omega))
  | with_reducible refine ad_nil ?_
  | with_reducible refine ad_cons ?_
  | with_reducible refine td_test ?_
  | with_reducible refine td_B ?_
  | with_reducible refine td_and ?_
  | with_reducible refine td_or ?_
  | with_reducible refine td_not ?_
  | with_reducible refine xd_andV ?_
  | with_reducible refine xd_orV ?_
  | with_reducible refine xd_notV ?_
  | with_reducible refine xd_sliceF ?_
  | with_reducible refine pd_none ?_
  | with_reducible refine pd_some ?_
  | with_reducible refine od_add ?_
  | with_reducible refine od_sub ?_
  | (with_reducible refine od_fdivR ?_ ?_; (focus omega))
  | (with_reducible refine od_modN ?_ ?_; (focus omega))
  | (with_reducible refine od_mulX ?_ ?_; (focus (refine mulB (by assumption) (by assumption) (by omega))))
  | with_reducible refine od_mulX ?_ ?_
  | (with_reducible refine od_mul ?_ ?_; (focus (first | exact Or.inl (by omega) | exact Or.inr (by omega))))
  | with_reducible refine od_lt ?_
  | with_reducible refine od_le ?_
  | with_reducible refine od_gt ?_
  | with_reducible refine od_ge ?_
  | with_reducible refine od_eqI ?_
  | with_reducible refine od_neI ?_
  | (refine od_eqL (.lst _) (.lst _) ?_; (focus skip))
  | (refine od_neL (.lst _) (.lst _) ?_; (focus skip))
  | refine od_isL ?_
  | with_reducible refine ud_neg ?_
  | with_reducible refine id_I ?_
  | refine cd_isi (b := true) (.int _) (by with_unfolding_all rfl) ?_
  | refine cd_isi (b := false) (.int _) (by with_unfolding_all rfl) ?_
  | refine cd_isi (b := true) (.lst _) (by with_unfolding_all rfl) ?_
  | with_reducible refine cd_max2 ?_
  | with_reducible refine cd_abs ?_
  | with_reducible refine cd_int1 ?_
  | with_reducible refine cd_intB ?_
  | refine cd_lenI (.lst _) ?_
  | refine cd_lenM (.lst _) ?_
  | (refine cd_lenI (ns := ?nsx) (.obj ?hx) ?_; (case hx => walk_at "wd"))
  | (refine cd_lenM (rows := ?nsx) (.obj ?hx) ?_; (case hx => walk_at "wd"))
  | refine cd_listF (.lst _) ?_
  | (refine cd_listF (ds := ?dsx) (.obj ?hx) ?_; (case hx => walk_at "wd"))
  | (refine od_catI (.lst _) (.lst _) ?_ ?_; (focus (first | omega | (simp only [List.length_append, List.length_map, tab_length]; omega))))
  | walk_at "ix"
  | with_reducible refine xd_var rfl ?_
  | with_reducible refine And.intro rfl ?_
  | with_reducible refine ⟨_, rfl, ?_⟩
  | with_reducible refine ⟨_, _, rfl, ?_⟩
  | (with_reducible refine And.intro (fun hb => ?_) (fun hb => ?_) <;> (try (exact absurd hb (by decide))) <;> (try simp only [decide_eq_true_eq, decide_eq_false_iff_not, Bool.not_eq_true', Bool.not_eq_false', Bool.true_eq_false, Bool.false_eq_true, Bool.not_eq_true, Bool.not_eq_false, Int.not_lt, Int.not_le] at hb))
  | with_reducible exact rfl
  | fail "no step")
local macro_rules | `(tactic| walk_at "ix") => `(tactic| (with_reducible show OD _ (rIx _) _ (.int (Nat.cast _)) _ _) <;> first
  | (refine od_ixIN (.lst _) ?_ ?_; (focus omega))
  | (refine od_ixMN (.lst _) ?_ ?_; (focus omega))
  | (refine od_ixIN (ns := ?nsx) (.obj ?hx) ?ha ?_; (case hx => walk_at "wd"); (case ha => omega))
  | (refine od_ixMN (rows := ?nsx) (.obj ?hx) ?ha ?_; (case hx => walk_at "wd"); (case ha => omega))
  | fail "no index")
theorem od_eqS {K : PySem.W.Frag} {w : Wd} {x y : Dat} {Q : Dat → Wd → Prop} {ns : List Int} (s : SqD w x (ns.map .int)) (s' : SqD w y (ns.map .int)) (q : Q (.bl true) w) : OD K (rEqD K) x y w Q := od_eqL s s' (by rw [decide_eq_true rfl]; exact q)
theorem od_neS {K : PySem.W.Frag} {w : Wd} {x y : Dat} {Q : Dat → Wd → Prop} {ns : List Int} (s : SqD w x (ns.map .int)) (s' : SqD w y (ns.map .int)) (q : Q (.bl false) w) : OD K (rNeD K) x y w Q := od_neL s s' (by rw [decide_eq_true rfl]; exact q)
local macro_rules | `(tactic| walk_at "dl") => `(tactic| first
  | (with_reducible refine od_eqS (.lst _) (.lst _) ?_)
  | (with_reducible refine od_neS (.lst _) (.lst _) ?_)
  | fail "no step")
section
variable {P : Program} {wo : World} {K : PySem.W.Frag} {mg : Str → Option Value} {base : Heap}
def fs_sums : FS := fun ds w Q => ∃ (n : Nat) (a b : List Int), ds = [dI a, dI b] ∧ n ≤ 60000000 ∧ Sz n a ∧ Sz n b ∧ a.length ≤ 400 ∧ b.length ≤ 400 ∧ Tr a ∧ Tr b ∧ Q (.bl true) w
theorem ok_law_sums_fit (G : Bltn mg) (C_poly_times : Cal P wo K mg base 42 "poly_times" ["one", "other"] fs_times) (C_law_is_poly : Cal P wo K mg base 42 "_law_is_poly" ["thing"] fs_ispoly) (C_law_times : Cal P wo K mg base 42 "_law_times" ["one", "other"] fs_ltimes)
    (C_poly_minus : Cal P wo K mg base 42 "poly_minus" ["one", "other"] fs_minus) (C_law_minus : Cal P wo K mg base 42 "_law_minus" ["one", "other"] fs_lminus) {f : Addr} {fd : FuncData} (F : Fun K "_law_sums_fit" "_law_sums_fit" s_law_sums_fit f fd) : FnOk P wo K mg base CX0 43 f fd ["one", "other"] (spOf K fs_sums) := by
  have nd := sc_law_sums_fit.nd
  refine fn_ok F sc_law_sums_fit (fun ds w Q h => ?_) fun cdv A outer s H E hr => ?_
  · obtain ⟨_, _, _, rfl, _⟩ := h
    rfl
  refine ⟨_, (pss_cons (ps_set (i := 2) nd rfl (Or.inl rfl) (pe_callTy (r := rLstK K) call_list_of (by rfl) G.list_ (by decide +kernel) (pa_cons (pv 0) pa_nil)))
  (pss_cons (ps_set (i := 3) nd rfl (Or.inl rfl) (pe_callTy (r := rLstK K) call_list_of (by rfl) G.list_ (by decide +kernel) (pa_cons (pv 1) pa_nil)))
  (pss_cons (ps_set (i := 4) nd rfl (Or.inl rfl) (pe_calK C_poly_times rfl rfl rfl rfl rfl (hr.mono (by decide)) (by rfl) (pa_cons (pv 2) (pa_cons (pv 3) pa_nil))))
  (pss_cons (ps_if (PW.pt (pw_or (pt_not (pt_val (pe_calK C_law_is_poly rfl rfl rfl rfl rfl (hr.mono (by decide)) (by rfl) (pa_cons (pv 4) pa_nil)))) (pw_or1 (pt_cmpR (op_neD hr.units) (pv 4) (pe_calK C_law_times rfl rfl rfl rfl rfl (hr.mono (by decide)) (by rfl) (pa_cons (pv 0) (pa_cons (pv 1) pa_nil))) (nomark _))))) (pss_one (ps_ret pe_bl)) pss_nil)
  (pss_cons (ps_set (i := 4) nd rfl (Or.inl rfl) (pe_calK C_poly_minus rfl rfl rfl rfl rfl (hr.mono (by decide)) (by rfl) (pa_cons (pv 2) (pa_cons (pv 3) pa_nil))))
  (pss_cons (ps_if (PW.pt (pw_or (pt_not (pt_val (pe_calK C_law_is_poly rfl rfl rfl rfl rfl (hr.mono (by decide)) (by rfl) (pa_cons (pv 4) pa_nil)))) (pw_or1 (pt_cmpR (op_neD hr.units) (pv 4) (pe_calK C_law_minus rfl rfl rfl rfl rfl (hr.mono (by decide)) (by rfl) (pa_cons (pv 0) (pa_cons (pv 1) pa_nil))) (nomark _))))) (pss_one (ps_ret pe_bl)) pss_nil)
  (pss_one (ps_ret (pe_and (pe_cmpR (op_eqD hr.units) (pv 2) (pv 0) (nomark _)) (pe_one (pe_cmpR (op_eqD hr.units) (pv 3) (pv 1) (nomark _)))))))))))), ?_⟩
  try dsimp only [cxOf, L2.Cx.nox, L2.Cx.wish, L2.Cx.blk]
  rintro ds w R ⟨n, a, b, rfl, hn, hsa, hsb, hla, hlb, hta, htb, q⟩
  have htt := Mat.mulP_Tr hta htb
  have htl : (mulP a b).length ≤ 1000 := by
    by_cases h : a.length = 0 ∨ b.length = 0
    · rw [Mat.mulP_nil h]; exact Nat.zero_le _
    · rw [Mat.mulP_length (by omega) (by omega)]; omega
  repeat' walk_at "dl"
  refine ⟨n, a, b, rfl, hn, hsa, hsb, by omega, by omega, ?_⟩
  rw [Mat.trimP_of htt]
  repeat' walk_at "dl"
  refine ⟨_, rfl, htl, htt, ?_⟩
  repeat' walk_at "dl"
  refine ⟨n, a, b, rfl, hn, hsa, hsb, by omega, by omega, ?_⟩
  repeat' walk_at "dl"
  refine ⟨a, b, rfl, by omega, by omega, ?_⟩
  repeat' walk_at "dl"
  refine ⟨_, rfl, by have := Mat.subP_len (a := a) (b := b); omega, Mat.subP_Tr, ?_⟩
  repeat' walk_at "dl"
  refine ⟨a, b, rfl, by omega, by omega, ?_⟩
  repeat' walk_at "dl"
  exact q
def fs_qfits : FS := fun ds w Q => ∃ (e m : Nat) (L o : List Int), ds = [dI (mulP L o), dI o, dI L] ∧ Tr L ∧ Tr o ∧ 0 < o.length ∧ L.length ≤ 500 ∧ o.length ≤ 500 ∧ Sz e L ∧ Sz m o ∧ e + m ≤ 60000000 ∧ Q (.bl true) w
theorem ok_law_quotient_fits (G : Bltn mg) (C_poly_quotient : Cal P wo K mg base 43 "poly_quotient" ["one", "other"] fs_quo) (C_law_is_poly : Cal P wo K mg base 42 "_law_is_poly" ["thing"] fs_ispoly) {f : Addr} {fd : FuncData} (F : Fun K "_law_quotient_fits" "_law_quotient_fits" s_law_quotient_fits f fd) : FnOk P wo K mg base CX0 44 f fd ["one", "other", "due"] (spOf K fs_qfits) := by
  have nd := sc_law_quotient_fits.nd
  refine fn_ok F sc_law_quotient_fits (fun ds w Q h => ?_) fun cdv A outer s H E hr => ?_
  · obtain ⟨_, _, _, _, rfl, _⟩ := h
    rfl
  refine ⟨_, (pss_cons (ps_set (i := 3) nd rfl (Or.inl rfl) (pe_callTy (r := rLstK K) call_list_of (by rfl) G.list_ (by decide +kernel) (pa_cons (pv 0) pa_nil)))
  (pss_cons (ps_set (i := 4) nd rfl (Or.inl rfl) (pe_callTy (r := rLstK K) call_list_of (by rfl) G.list_ (by decide +kernel) (pa_cons (pv 1) pa_nil)))
  (pss_cons (ps_set (i := 5) nd rfl (Or.inl rfl) (pe_calK C_poly_quotient rfl rfl rfl rfl rfl (hr.mono (by decide)) (by rfl) (pa_cons (pv 3) (pa_cons (pv 4) pa_nil))))
  (pss_one (ps_ret (pe_and (pe_calK C_law_is_poly rfl rfl rfl rfl rfl (hr.mono (by decide)) (by rfl) (pa_cons (pv 5) pa_nil)) (pe_and (pe_cmpR (op_eqD hr.units) (pv 5) (pv 2) (nomark _)) (pe_and (pe_cmpR (op_eqD hr.units) (pv 3) (pv 0) (nomark _)) (pe_one (pe_cmpR (op_eqD hr.units) (pv 4) (pv 1) (nomark _))))))))))), ?_⟩
  try dsimp only [cxOf, L2.Cx.nox, L2.Cx.wish, L2.Cx.blk]
  rintro ds w R ⟨e, m, L, o, rfl, htL, hto, ho0, hL5, ho5, hse, hsm, hem, q⟩
  repeat' walk_at "dl"
  refine ⟨e, m, L, o, rfl, htL, hto, ho0, hL5, ho5, hse, hsm, hem, ?_⟩
  repeat' walk_at "dl"
  refine ⟨_, rfl, by omega, htL, ?_⟩
  repeat' walk_at "dl"
  exact q
def fs_pfits : FS := fun ds w Q => ∃ (n : Nat) (ns : List Int), ds = [dI ns] ∧ n ≤ 60000000 ∧ Sz n ns ∧ ns.length ≤ 1000 ∧ 0 < ns.length ∧ Tr ns ∧ Q (.bl true) w
theorem ok_law_primitive_fits (G : Bltn mg) (C_primitive_part : Cal P wo K mg base 42 "primitive_part" ["row"] fs_prim) (C_law_is_poly : Cal P wo K mg base 42 "_law_is_poly" ["thing"] fs_ispoly) (C_law_primitive : Cal P wo K mg base 42 "_law_primitive" ["row"] fs_lprim) {f : Addr} {fd : FuncData} (F : Fun K "_law_primitive_fits" "_law_primitive_fits" s_law_primitive_fits f fd) : FnOk P wo K mg base CX0 43 f fd ["row"] (spOf K fs_pfits) := by
  have nd := sc_law_primitive_fits.nd
  refine fn_ok F sc_law_primitive_fits (fun ds w Q h => ?_) fun cdv A outer s H E hr => ?_
  · obtain ⟨_, _, rfl, _⟩ := h
    rfl
  refine ⟨_, (pss_cons (ps_set (i := 1) nd rfl (Or.inl rfl) (pe_callTy (r := rLstK K) call_list_of (by rfl) G.list_ (by decide +kernel) (pa_cons (pv 0) pa_nil)))
  (pss_cons (ps_set (i := 2) nd rfl (Or.inl rfl) (pe_calK C_primitive_part rfl rfl rfl rfl rfl (hr.mono (by decide)) (by rfl) (pa_cons (pv 1) pa_nil)))
  (pss_one (ps_ret (pe_and (pe_calK C_law_is_poly rfl rfl rfl rfl rfl (hr.mono (by decide)) (by rfl) (pa_cons (pv 2) pa_nil)) (pe_and (pe_cmpR (op_eqD hr.units) (pv 2) (pe_calK C_law_primitive rfl rfl rfl rfl rfl (hr.mono (by decide)) (by rfl) (pa_cons (pv 0) pa_nil)) (nomark _)) (pe_one (pe_cmpR (op_eqD hr.units) (pv 1) (pv 0) (nomark _))))))))), ?_⟩
  try dsimp only [cxOf, L2.Cx.nox, L2.Cx.wish, L2.Cx.blk]
  rintro ds w R ⟨n, ns, rfl, hn, hs, hl, h0, ht, q⟩
  repeat' walk_at "dl"
  refine ⟨n, ns, rfl, hn, hs, hl, ?_⟩
  repeat' walk_at "dl"
  refine ⟨_, rfl, by have := Mat.prim_len (l := ns); omega, Mat.prim_Tr ht, ?_⟩
  repeat' walk_at "dl"
  refine ⟨n, ns, rfl, hn, hs, hl, Mat.cont_ne ht h0, ?_⟩
  repeat' walk_at "dl"
  exact q
def fs_gfits : FS := fun ds w Q => ∃ (a b : List Int), ds = [dI a, dI b] ∧ Sz 64 a ∧ Sz 64 b ∧ Tr a ∧ Tr b ∧ a.length ≤ 8 ∧ b.length ≤ 8 ∧ (0 < a.length ∨ 0 < b.length) ∧ Q (.bl true) w
theorem quot_of {a g : List Int} {L : Mat.PS} (hL : Mat.Fn L) (ha : Tr a) (h0 : 0 < a.length) (hg : PL g) (hl : a.length ≤ 8) (hs : Sz 64 a) (hsg : Sz 300000 g) (e : T a = L * T g) : ∃ l : List Int, T l = L ∧ Tr l ∧ a = mulP l g ∧ 0 < l.length ∧ l.length ≤ 8 ∧ Sz 2500000 l := by
  obtain ⟨l, h1, h2⟩ := Mat.as_list hL
  have e2 : a = mulP l g := Mat.T_inj ha (Mat.mulP_Tr h1 hg.Tr) (by rw [Mat.mulP_T, h2]; exact e)
  have hl0 : 0 < l.length := Nat.pos_of_ne_zero fun z => by
    rw [e2, Mat.mulP_nil (.inl z)] at h0
    exact absurd h0 (by decide)
  have hlen := Mat.mulP_len_eq hl0 hg.len
  rw [← e2] at hlen
  have hg0 := hg.len
  refine ⟨l, h2, h1, e2, hl0, by omega, ?_⟩
  have := sz_quo (L := l) hg.Tr hg.len (by rw [← e2]; exact hs) hsg
  exact this.mono (by omega)
theorem ok_law_gcd_fits (G : Bltn mg) (C_poly_gcd : Cal P wo K mg base 44 "poly_gcd" ["one", "other"] fs_pgcd) (C_law_is_poly : Cal P wo K mg base 42 "_law_is_poly" ["thing"] fs_ispoly) (C_law_primitive : Cal P wo K mg base 42 "_law_primitive" ["row"] fs_lprim)
    (C_law_quotient : Cal P wo K mg base 41 "_law_quotient" ["one", "other"] fs_lquo) (C_law_resultant : Cal P wo K mg base 42 "_law_resultant" ["one", "other"] fs_res) (C_law_quotient_fits : Cal P wo K mg base 44 "_law_quotient_fits" ["one", "other", "due"] fs_qfits)
    {f : Addr} {fd : FuncData} (F : Fun K "_law_gcd_fits" "_law_gcd_fits" s_law_gcd_fits f fd) : FnOk P wo K mg base CX0 45 f fd ["one", "other"] (spOf K fs_gfits) := by
  have nd := sc_law_gcd_fits.nd
  refine fn_ok F sc_law_gcd_fits (fun ds w Q h => ?_) fun cdv A outer s H E hr => ?_
  · obtain ⟨_, _, rfl, _⟩ := h
    rfl
  refine ⟨_, (pss_cons (ps_set (i := 2) nd rfl (Or.inl rfl) (pe_callTy (r := rLstK K) call_list_of (by rfl) G.list_ (by decide +kernel) (pa_cons (pv 0) pa_nil)))
  (pss_cons (ps_set (i := 3) nd rfl (Or.inl rfl) (pe_callTy (r := rLstK K) call_list_of (by rfl) G.list_ (by decide +kernel) (pa_cons (pv 1) pa_nil)))
  (pss_cons (ps_set (i := 4) nd rfl (Or.inl rfl) (pe_calK C_poly_gcd rfl rfl rfl rfl rfl (hr.mono (by decide)) (by rfl) (pa_cons (pv 2) (pa_cons (pv 3) pa_nil))))
  (pss_cons (ps_if (PW.pt (pw_or (pt_not (pt_val (pe_calK C_law_is_poly rfl rfl rfl rfl rfl (hr.mono (by decide)) (by rfl) (pa_cons (pv 4) pa_nil)))) (pw_or (pt_cmpR op_eq (pe_callB (r := rLenK K) call_len_seq (by rfl) G.len_ PySem.boot_len (pa_cons (pv 4) pa_nil)) pe_int (nomark _)) (pw_or (pt_cmpR (op_neD hr.units) (pv 2) (pv 0) (nomark _)) (pw_or1 (pt_cmpR (op_neD hr.units) (pv 3) (pv 1) (nomark _))))))) (pss_one (ps_ret pe_bl)) pss_nil)
  (pss_cons (ps_if (PW.pt (pw_or (pt_cmpR op_eq (pe_callB (r := rLenK K) call_len_seq (by rfl) G.len_ PySem.boot_len (pa_cons (pv 0) pa_nil)) pe_int (nomark _)) (pw_or1 (pt_cmpR op_eq (pe_callB (r := rLenK K) call_len_seq (by rfl) G.len_ PySem.boot_len (pa_cons (pv 1) pa_nil)) pe_int (nomark _))))) (pss_one (ps_ret (pe_cmpR (op_eqD hr.units) (pv 4) (pe_calK C_law_primitive rfl rfl rfl rfl rfl (hr.mono (by decide)) (by rfl) (pa_cons (pe_op op_cat (pv 0) (pv 1)) pa_nil)) (nomark _)))) pss_nil)
  (pss_cons (ps_if (pt_cmpR (op_neD hr.units) (pv 4) (pe_calK C_law_primitive rfl rfl rfl rfl rfl (hr.mono (by decide)) (by rfl) (pa_cons (pv 4) pa_nil)) (nomark _)) (pss_one (ps_ret pe_bl)) pss_nil)
  (pss_cons (ps_set (i := 5) nd rfl (Or.inl rfl) (pe_calK C_law_quotient rfl rfl rfl rfl rfl (hr.mono (by decide)) (by rfl) (pa_cons (pv 0) (pa_cons (pv 4) pa_nil))))
  (pss_cons (ps_set (i := 6) nd rfl (Or.inl rfl) (pe_calK C_law_quotient rfl rfl rfl rfl rfl (hr.mono (by decide)) (by rfl) (pa_cons (pv 1) (pa_cons (pv 4) pa_nil))))
  (pss_cons (ps_if (PW.pt (pw_or (pt_cmpR op_isN (pv 5) pe_non (nomark _)) (pw_or (pt_cmpR op_isN (pv 6) pe_non (nomark _)) (pw_or1 (pt_cmpR op_eq (pe_calK C_law_resultant rfl rfl rfl rfl rfl (hr.mono (by decide)) (by rfl) (pa_cons (pv 5) (pa_cons (pv 6) pa_nil))) pe_int (nomark _)))))) (pss_one (ps_ret pe_bl)) pss_nil)
  (pss_one (ps_ret (pe_and (pe_calK C_law_quotient_fits rfl rfl rfl rfl rfl (hr.mono (by decide)) (by rfl) (pa_cons (pv 0) (pa_cons (pv 4) (pa_cons (pv 5) pa_nil)))) (pe_one (pe_calK C_law_quotient_fits rfl rfl rfl rfl rfl (hr.mono (by decide)) (by rfl) (pa_cons (pv 1) (pa_cons (pv 4) (pa_cons (pv 6) pa_nil))))))))))))))))), ?_⟩
  try dsimp only [cxOf, L2.Cx.nox, L2.Cx.wish, L2.Cx.blk]
  rintro ds w R ⟨a, b, rfl, hsa, hsb, hta, htb, hla, hlb, h0, q⟩
  repeat' walk_at "dl"
  refine ⟨a, b, rfl, hsa, hsb, hta, htb, hla, hlb, h0, fun g hpl hlg hsg hga hgb hgg => ?_⟩
  have hg0 := hpl.len
  have hgc : cont g ≠ 0 := by rw [hpl.one]; decide
  repeat' walk_at "dl"
  refine ⟨_, rfl, by omega, hpl.Tr, ?_⟩
  repeat' walk_at "dl"
  · exfalso; omega
  · have e : a = [] := List.length_eq_zero_iff.mp (by omega)
    subst e
    have hb0 : 0 < b.length := by
      rcases h0 with h | h
      · exact absurd h (by decide)
      · exact h
    have eg := hga rfl
    refine ⟨64, b, rfl, by omega, hsb, by omega, Mat.cont_ne htb hb0, ?_⟩
    rw [← eg]
    repeat' walk_at "dl"
    exact q
  · have e : b = [] := List.length_eq_zero_iff.mp (by omega)
    subst e
    have ha0 : 0 < a.length := by omega
    have eg := hgb rfl
    refine ⟨64, a, by rw [List.append_nil], by omega, hsa, by omega, Mat.cont_ne hta ha0, ?_⟩
    rw [← eg]
    repeat' walk_at "dl"
    exact q
  have ha0 : 0 < a.length := by omega
  have hb0 : 0 < b.length := by omega
  obtain ⟨L, R', fL, fR, eL, eR, k, s1, t1, hk, fs, ft, hbez⟩ := hgg.quot hpl.Prim
  obtain ⟨l, rfl, htl, ea, hl0, hl8, hsl⟩ := quot_of fL hta ha0 hpl hla hsa hsg eL
  obtain ⟨r, rfl, htr, eb, hr0, hr8, hsr⟩ := quot_of fR htb hb0 hpl hlb hsb hsg eR
  have hne := Mat.res_ne htl htr hl0 hr0 hk fs ft hbez
  refine ⟨300000, g, rfl, by omega, hsg, by omega, hgc, ?_⟩
  rw [hpl.prim]
  repeat' walk_at "dl"
  refine ⟨64, 300000, l, g, by rw [← ea], hpl.Tr, hg0, hl0, by omega, by omega, by rw [← ea]; exact hsa, hsg, by omega, ?_⟩
  repeat' walk_at "dl"
  refine ⟨64, 300000, r, g, by rw [← eb], hpl.Tr, hg0, hr0, by omega, by omega, by rw [← eb]; exact hsb, hsg, by omega, ?_⟩
  repeat' walk_at "dl"
  refine ⟨2500000, l, r, rfl, hl0, hr0, by omega, hsl, hsr, by omega, ?_⟩
  repeat' walk_at "dl"
  · exact absurd ‹_ = (0 : Int)› hne
  refine ⟨2500000, 300000, l, g, by rw [← ea], htl, hpl.Tr, hg0, by omega, by omega, hsl, hsg, by omega, ?_⟩
  repeat' walk_at "dl"
  refine ⟨2500000, 300000, r, g, by rw [← eb], htr, hpl.Tr, hg0, by omega, by omega, hsr, hsg, by omega, ?_⟩
  exact q
end
end K67
set_option Elab.async false
set_option linter.all false
set_option maxRecDepth 100000
set_option maxHeartbeats 4000000
namespace K67
open PySem PySem.Spec PyProof.Rows L2 DL
open Mat (tab tab_length tab_at trimP mulP subP Tr T sm mm ch ad dl)
local macro_rules | `(tactic| walk_at "wd") => `(tactic| first
  | exact Wd.put_same
  | exact Wd.at2 (by assumption)
  | assumption
  | exact Wd.put_of (by assumption) (by assumption)
  | exact Wd.put_of (by assumption) (Wd.put_of (by assumption) (by assumption))
  | fail "no world")
local macro_rules | `(tactic| walk_at "sd") => `(tactic| first
  | with_reducible refine sd_seq ?_
  | with_reducible refine sd_set ?_
  | with_reducible refine sd_asg ?_
  | with_reducible refine gd_name ?_
  | with_reducible refine sd_ret ?_
  | with_reducible refine sd_drop ?_
  | with_reducible refine sd_if ?_
  | with_reducible refine sd_par ?_
  | with_reducible refine sd_next ?_
  | with_reducible refine sd_break ?_
  | with_reducible refine sd_aug rfl ?_
  | fail "no step")
local macro_rules | `(tactic| walk_at "ix") => `(tactic| (with_reducible show OD _ (rIx _) _ _ _ _) <;> first
  | refine od_ix (.tup _) rfl ?_
  | refine od_ix (.lst [_, _, _, _]) rfl ?_
  | (refine od_ix (ds := ?dsx) (.obj ?hx) ?hy ?_; (case hx => walk_at "wd"); (case hy => exact rfl))
  | (refine od_ixLast (.lst _) ?_ ?_; (focus omega))
  | (refine od_ixLast (ns := ?nsx) (.obj ?hx) ?ha ?_; (case hx => walk_at "wd"); (case ha => omega))
  | (refine od_ixI (.lst _) ?_ ?_ ?_; (focus omega); (focus omega))
  | (refine od_ixM (.lst _) ?_ ?_ ?_; (focus omega); (focus omega))
  | (refine od_ixI (ns := ?nsx) (.obj ?hx) ?ha ?hb ?_; (case hx => walk_at "wd"); (case ha => omega); (case hb => omega))
  | (refine od_ixM (rows := ?nsx) (.obj ?hx) ?ha ?hb ?_; (case hx => walk_at "wd"); (case ha => omega); (case hb => omega))
  | fail "no index")
local macro_rules | `(tactic| walk_at "dl") => `(tactic| first
  | walk_at "sd"
  | with_reducible refine xd_int ?_
  | with_reducible refine xd_bl ?_
  | with_reducible refine xd_non ?_
  | with_reducible refine xd_str ?_
  | with_reducible refine xd_ty ?_
  | with_reducible refine xd_op ?_
  | with_reducible refine xd_un ?_
  | with_reducible refine xd_if ?_
  | with_reducible refine xd_tup ?_
  | with_reducible refine xd_cb ?_
  | with_reducible refine xd_call ?_
  | with_reducible refine xd_bm ?_
  | with_reducible refine xd_bm0 ?_
  | (refine And.intro (ty_list (ds := ?dsx) (.obj ?hx)) ?_; (case hx => walk_at "wd"))
  | (refine md_appI (ns := ?nsx) ?hx ?ha ?_; (case hx => walk_at "wd"); (case ha => omega))
  | (refine md_appM (rows := ?nsx) ?hx ?ha ?_; (case hx => walk_at "wd"); (case ha => omega))
  | (refine md_popI (ns := ?nsx) ?hx ?ha ?_; (case hx => walk_at "wd"); (case ha => omega))
  | with_reducible refine ad_nil ?_
  | with_reducible refine ad_cons ?_
  | with_reducible refine td_test ?_
  | with_reducible refine td_B ?_
  | with_reducible refine td_and ?_
  | with_reducible refine td_or ?_
  | with_reducible refine td_not ?_
  | with_reducible refine xd_andV ?_
  | with_reducible refine xd_orV ?_
  | with_reducible refine xd_notV ?_
  | with_reducible refine xd_sliceF ?_
  | with_reducible refine pd_none ?_
  | with_reducible refine pd_some ?_
  | with_reducible refine od_add ?_
  | with_reducible refine od_sub ?_
  | (with_reducible refine od_fdivR ?_ ?_; (focus omega))
  | (with_reducible refine od_modN ?_ ?_; (focus omega))
  | (with_reducible refine od_mulX ?_ ?_; (focus (refine mulB (by assumption) (by assumption) (by omega))))
  | with_reducible refine od_mulX ?_ ?_
  | (with_reducible refine od_mul ?_ ?_; (focus (first | exact Or.inl (by omega) | exact Or.inr (by omega))))
  | with_reducible refine od_lt ?_
  | with_reducible refine od_le ?_
  | with_reducible refine od_gt ?_
  | with_reducible refine od_ge ?_
  | with_reducible refine od_eqI ?_
  | with_reducible refine od_neI ?_
  | (refine od_eqL (.lst _) (.lst _) ?_; (focus skip))
  | (refine od_neL (.lst _) (.lst _) ?_; (focus skip))
  | refine od_isL ?_
  | with_reducible refine ud_neg ?_
  | with_reducible refine id_I ?_
  | refine cd_isi (b := true) (.int _) (by with_unfolding_all rfl) ?_
  | refine cd_isi (b := false) (.int _) (by with_unfolding_all rfl) ?_
  | refine cd_isi (b := true) (.lst _) (by with_unfolding_all rfl) ?_
  | with_reducible refine cd_max2 ?_
  | with_reducible refine cd_abs ?_
  | with_reducible refine cd_int1 ?_
  | with_reducible refine cd_intB ?_
  | refine cd_lenI (.lst _) ?_
  | refine cd_lenM (.lst _) ?_
  | (refine cd_lenI (ns := ?nsx) (.obj ?hx) ?_; (case hx => walk_at "wd"))
  | (refine cd_lenM (rows := ?nsx) (.obj ?hx) ?_; (case hx => walk_at "wd"))
  | refine cd_listF (.lst _) ?_
  | (refine cd_listF (ds := ?dsx) (.obj ?hx) ?_; (case hx => walk_at "wd"))
  | (refine od_catI (.lst _) (.lst _) ?_ ?_; (focus (first | omega | (simp only [List.length_append, List.length_map, tab_length]; omega))))
  | walk_at "ix"
  | with_reducible refine xd_var rfl ?_
  | with_reducible refine And.intro rfl ?_
  | with_reducible refine ⟨_, rfl, ?_⟩
  | with_reducible refine ⟨_, _, rfl, ?_⟩
  | (with_reducible refine And.intro (fun hb => ?_) (fun hb => ?_) <;> (try (exact absurd hb (by decide))) <;> (try simp only [decide_eq_true_eq, decide_eq_false_iff_not, Bool.not_eq_true', Bool.not_eq_false', Bool.true_eq_false, Bool.false_eq_true, Bool.not_eq_true, Bool.not_eq_false, Int.not_lt, Int.not_le] at hb))
  | with_reducible exact rfl
  | fail "no step")
local macro_rules | `(tactic| walk_at "ix") => `(tactic| (with_reducible show OD _ (rIx _) _ (.int (Nat.cast _)) _ _) <;> first
  | (refine od_ixIN (.lst _) ?_ ?_; (focus omega))
  | (refine od_ixMN (.lst _) ?_ ?_; (focus omega))
  | (refine od_ixIN (ns := ?nsx) (.obj ?hx) ?ha ?_; (case hx => walk_at "wd"); (case ha => omega))
  | (refine od_ixMN (rows := ?nsx) (.obj ?hx) ?ha ?_; (case hx => walk_at "wd"); (case ha => omega))
  | fail "no index")
local macro_rules | `(tactic| walk_at "dl") => `(tactic| first
  | (refine od_ixO (by assumption) ?_; (focus skip))
  | (refine od_ixT ?_ ?_; (focus omega))
  | refine cd_lenT ?_
  | refine cd_lenTI ?_
  | refine cd_lenO ?_
  | fail "no step")
/-- how often t stands in a row -/
def cnt (r : List Int) (t : Nat) : Int := ((r.filter fun x => decide (x = (t : Int))).length : Nat)
theorem cnt_nil (t : Nat) : cnt [] t = 0 := rfl
theorem cnt_snoc {r : List Int} {x : Int} (t : Nat) : cnt (r ++ [x]) t = cnt r t + if x = t then 1 else 0 := by
  unfold cnt
  rw [List.filter_append, List.length_append]
  by_cases h : x = t
  · rw [if_pos h]
    have : List.filter (fun x => decide (x = (t : Int))) [x] = [x] := by simp [h]
    rw [this]
    simp
  · rw [if_neg h]
    have : List.filter (fun x => decide (x = (t : Int))) [x] = [] := by simp [h]
    rw [this]
    simp
theorem take_snoc {r : List Int} {i : Nat} (h : i < r.length) : r.take (i + 1) = r.take i ++ [r.getD i 0] := by
  rw [List.take_succ, List.getElem?_eq_getElem h, List.getD_eq_getElem?_getD, List.getElem?_eq_getElem h]
  rfl
section
variable {P : Program} {wo : World} {K : PySem.W.Frag} {mg : Str → Option Value} {base : Heap}
/-- the steps of a machine with n states -/
def Sts (rows : List (List Int)) (n : Nat) : Prop := rows.length = n ∧ ∀ r ∈ rows, r.length ≤ 4 ∧ ∀ x ∈ r, 0 ≤ x ∧ x < n
theorem Sts.at_ {rows : List (List Int)} {n : Nat} (h : Sts rows n) {k i : Nat} (hk : k < n) (hi : i < (rows.getD k []).length) : ∃ t : Nat, t < n ∧ (rows.getD k []).getD i 0 = t := by
  have hm : rows.getD k [] ∈ rows := by
    rw [List.getD_eq_getElem?_getD, List.getElem?_eq_getElem (by rw [h.1]; exact hk)]
    exact List.getElem_mem _
  have := (h.2 _ hm).2 ((rows.getD k []).getD i 0) (by
    rw [List.getD_eq_getElem?_getD (l := rows.getD k []), List.getElem?_eq_getElem hi]
    exact List.getElem_mem _)
  exact ⟨((rows.getD k []).getD i 0).toNat, by omega, by omega⟩
def smx (rows : List (List Int)) : Nat → Nat → Int := fun i j => cnt (rows.getD i []) j
def fs_step : FS := fun ds w Q => ∃ (n : Nat) (rows : List (List Int)), ds = [tM rows] ∧ n ≤ 100 ∧ Sts rows n ∧ ∀ w' ps, sub w w' → At w' ps n (smx rows) → (∀ p ∈ ps, w p = none) → Q (dO ps) w'
theorem ok_step_matrix (G : Bltn mg) {f : Addr} {fd : FuncData} (F : Fun K "step_matrix" "step_matrix" s_step_matrix f fd) : FnOk P wo K mg base CX0 41 f fd ["steps"] (spOf K fs_step) := by
  have nd := sc_step_matrix.nd
  refine fn_ok F sc_step_matrix (fun ds w Q h => ?_) fun cdv A outer s H E hr => ?_
  · obtain ⟨_, _, rfl, _⟩ := h
    rfl
  refine ⟨_, (pss_cons (ps_setLc (i := 1) (own := [("state", 2)]) (g := gName 2) (tt := tYes) rfl nd rfl rfl (sw_true rfl rfl rfl (by decide +kernel)) (pi_tupK (K := K) rfl (pv 0)) (blkOk_by (own := [("state", 2)]) (N := n_step_matrix) (sc := (defScope s_step_matrix)) (by decide +kernel)) (fun _ _ _ _ _ => (pg_name (i := 2) nd rfl (Or.inl rfl))) (fun _ _ _ _ _ => pts_nil) (fun _ _ _ _ _ => (pe_lc (own := [("state", 2)]) (g := gName 2) (tt := tYes) rfl nd (pi_tupK (K := K) rfl (pv 0)) (blkOk_by (own := [("state", 2)]) (N := n_step_matrix) (sc := (relS _ (defScope s_step_matrix))) (by decide +kernel)) (fun _ _ _ _ _ => (pg_name (i := 2) nd rfl (Or.inl rfl))) (fun _ _ _ _ _ => pts_nil) (fun _ _ _ _ _ => pe_int))))
  (pss_cons (ps_for PassesOwn.never rfl (pi_range1 (by rfl) G.range_ (pa_cons (pe_callB (r := rLenK K) call_len_seq (by rfl) G.len_ PySem.boot_len (pa_cons (pv 0) pa_nil)) pa_nil)) (pg_name (i := 2) nd rfl (Or.inl rfl)) (pss_one (ps_for PassesOwn.never rfl (pi_tupK (K := K) rfl (pe_ix (r := rIx K) ix_seq (pv 0) (pv 2) (fun _ _ => rfl))) (pg_name (i := 3) nd rfl (Or.inl rfl)) (pss_one (ps_augS (pe_ix (r := rIx K) ix_seq (pv 1) (pv 2) (fun _ _ => rfl)) (pv 3) get_list pe_int ip_add set_list)))))
  (pss_one (ps_ret (pv 1))))), ?_⟩
  try dsimp only [cxOf, L2.Cx.nox, L2.Cx.wish, L2.Cx.blk]
  rintro ds w R ⟨n, rows, rfl, hn, hst, q⟩
  have hrl := hst.1
  repeat' walk_at "dl"
  refine xd_lcTM (gw_name (by decide)) ?_
  repeat' walk_at "dl"
  refine ⟨by rw [List.length_map]; omega, fun _ _ => 0, fun i x w' hx hs => gd_name ⟨rfl, ?_⟩, fun w' ps hs hat hnw => ?_⟩
  · refine xd_lcTX (gw_name (by decide)) (xd_var rfl ⟨_, rfl, by rw [List.length_map]; omega, fun _ => 0, fun i x w2 hx hs => gd_name ⟨rfl, xd_int ⟨rfl, rfl⟩⟩, fun p hp => ⟨p, tab _ _, rfl, hp, rfl, tab_length, fun j hj => by rw [tab_at, if_pos hj]⟩⟩)
  rw [List.length_map, hrl] at hat
  repeat' walk_at "dl"
  refine sd_forR1 ?_
  repeat' walk_at "dl"
  rw [hrl]
  refine ⟨by omega, by omega, fun i ρ' w'' => ∃ o2 o3 : Option Dat, ρ' = [some (tM rows), some (dO ps), o2, o3] ∧ DL.sub w w'' ∧ At w'' ps n (fun a b => if a < i then smx rows a b else 0), ⟨none, none, rfl, hs, hat.congr fun i j _ _ => by rw [if_neg (by omega)]⟩, ?_, ?_⟩
  · rintro i ρ' w1 hi ⟨o2, o3, rfl, hs1, hat1⟩
    have hi' : i < n := by omega
    obtain ⟨p, hp⟩ : ∃ p, ps[i]? = some p := ⟨_, List.getElem?_eq_getElem (by rw [hat1.len]; exact hi')⟩
    have hpw := hnw p (List.mem_of_getElem? hp)
    repeat' walk_at "dl"
    refine sd_forT ?_
    repeat' walk_at "dl"
    refine ⟨fun j ρ' w'' => ∃ o3 : Option Dat, ρ' = [some (tM rows), some (dO ps), some (.int i), o3] ∧ DL.sub w w'' ∧ At w'' ps n (fun a b => if a < i then smx rows a b else if a = i then cnt ((rows.getD i []).take j) b else 0), ⟨o3, rfl, hs1, hat1.congr fun a b _ _ => ?_⟩, ?_, ?_⟩
    · by_cases h : a < i
      · rw [if_pos h, if_pos h]
      · rw [if_neg h, if_neg h, List.take_zero]
        split <;> rfl
    · rintro j x ρ' w2 hx ⟨o3, rfl, hs2, hat2⟩
      have hj : j < (rows.getD i []).length := by
        have := (List.getElem?_eq_some_iff.mp hx).1
        rwa [List.length_map] at this
      rw [list_ix hj] at hx
      cases hx
      obtain ⟨t, ht, et⟩ := hst.at_ hi' hj
      obtain ⟨r, hr1, hr2, hr3⟩ := hat2.row i p hp
      rw [et]
      repeat' walk_at "dl"
      refine sd_augI ?_
      repeat' walk_at "dl"
      refine ⟨p, r, _, rfl, rfl, hr1, by omega, by omega, ?_⟩
      rw [Int.toNat_natCast]
      repeat' walk_at "dl"
      refine ⟨sub_put2 hs2 hpw, (hat2.set hp hr1 ht).congr fun a b ha hb => ?_⟩
      rw [take_snoc hj, et, cnt_snoc, hr3 t ht]
      by_cases h1 : a = i
      · subst h1
        by_cases h2 : b = t
        · subst h2
          simp
        · have h3 : ¬ ((t : Int) = (b : Int)) := by omega
          simp [h2, h3]
      · simp [h1]
    rintro ρ' w2 ⟨o3, rfl, hs2, hat2⟩
    refine ⟨_, _, rfl, hs2, hat2.congr fun a b _ _ => ?_⟩
    rw [List.length_map, List.take_length]
    by_cases h1 : a < i
    · rw [if_pos h1, if_pos (by omega)]
    · rw [if_neg h1]
      by_cases h2 : a = i
      · rw [if_pos h2, if_pos (by omega), h2]; rfl
      · rw [if_neg h2, if_neg (by omega)]
  rintro ρ' w2 ⟨o2, o3, rfl, hs2, hat2⟩
  repeat' walk_at "dl"
  exact q _ ps hs2 (hat2.congr fun a b ha _ => by rw [Int.toNat_natCast, if_pos ha]) hnw
/-- a product of square matrices -/
def fs_mtimes : FS := fun ds w Q => ∃ (n : Nat) (ps qs : List Addr) (a b : Nat → Nat → Int), ds = [dO ps, dO qs] ∧ n ≤ 100 ∧ At w ps n a ∧ At w qs n b ∧ (∀ i j, i < n → j < n → -(2 ^ 64) < a i j ∧ a i j < 2 ^ 64) ∧ ∀ w' rs, sub w w' → At w' rs n (mm n a b) → (∀ p ∈ rs, w p = none) → Q (dO rs) w'
theorem ok_matrix_times (G : Bltn mg) {f : Addr} {fd : FuncData} (F : Fun K "matrix_times" "matrix_times" s_matrix_times f fd) : FnOk P wo K mg base CX0 41 f fd ["one", "other"] (spOf K fs_mtimes) := by
  have nd := sc_matrix_times.nd
  refine fn_ok F sc_matrix_times (fun ds w Q h => ?_) fun cdv A outer s H E hr => ?_
  · obtain ⟨_, _, _, _, _, rfl, _⟩ := h
    rfl
  refine ⟨_, (pss_cons (ps_set (i := 2) nd rfl (Or.inr rfl) (pe_listRg rfl (by rfl) G.list_ (prg_1 (by rfl) G.range_ (pe_callB (r := rLenK K) call_len_seq (by rfl) G.len_ PySem.boot_len (pa_cons (pv 0) pa_nil)))))
  (pss_cons (ps_set (i := 3) nd rfl (Or.inr rfl) (pe_lc (own := [("k", 4)]) (g := gName 4) (tt := tYes) rfl nd (pi_range1 (by rfl) G.range_ (pa_cons (pe_callB (r := rLenK K) call_len_seq (by rfl) G.len_ PySem.boot_len (pa_cons (pv 1) pa_nil)) pa_nil)) (blkOk_by (own := [("k", 4)]) (N := n_matrix_times) (sc := (defScope s_matrix_times)) (by decide +kernel)) (fun _ _ _ _ _ => (pg_name (i := 4) nd rfl (Or.inr rfl))) (fun _ _ _ _ _ => pts_nil) (fun _ _ _ _ _ => (pe_lc (own := [("row", 5)]) (g := gName 5) (tt := tYes) rfl nd (pi_listK (K := K) rfl (pv 1)) (blkOk_by (own := [("row", 5)]) (N := n_matrix_times) (sc := (relS _ (defScope s_matrix_times))) (by decide +kernel)) (fun _ _ _ _ _ => (pg_name (i := 5) nd rfl (Or.inl rfl))) (fun _ _ _ _ _ => pts_nil) (fun _ _ _ _ _ => (pe_ix (r := rIx K) ix_seq (pv 5) (pv 4) (fun _ _ => rfl)))))))
  (pss_one (ps_ret (pe_lc (own := [("row", 5)]) (g := gName 5) (tt := tYes) rfl nd (pi_listK (K := K) rfl (pv 0)) (blkOk_by (own := [("row", 5)]) (N := n_matrix_times) (sc := (defScope s_matrix_times)) (by decide +kernel)) (fun _ _ _ _ _ => (pg_name (i := 5) nd rfl (Or.inr rfl))) (fun _ _ _ _ _ => pts_nil) (fun _ _ _ _ _ => (pe_lc (own := [("column", 6)]) (g := gName 6) (tt := tYes) rfl nd (pi_listK (K := K) rfl (pv 3)) (blkOk_by (own := [("column", 6)]) (N := n_matrix_times) (sc := (relS _ (defScope s_matrix_times))) (by decide +kernel)) (fun _ _ _ _ _ => (pg_name (i := 6) nd rfl (Or.inr rfl))) (fun _ _ _ _ _ => pts_nil) (fun _ _ _ _ _ => (pe_callB (r := rSum K) (cr_sum rfl) (by rfl) G.sum_ (by decide +kernel) (pa_cons (pe_lc (own := [("k", 4)]) (g := gName 4) (tt := tYes) rfl nd (pi_listK (K := K) rfl (pv 2)) (blkOk_by (own := [("k", 4)]) (N := n_matrix_times) (sc := (relS _ (relS _ (defScope s_matrix_times)))) (by decide +kernel)) (fun _ _ _ _ _ => (pg_name (i := 4) nd rfl (Or.inl rfl))) (fun _ _ _ _ _ => pts_nil) (fun _ _ _ _ _ => (pe_op op_mul (pe_ix (r := rIx K) ix_seq (pv 5) (pv 4) (fun _ _ => rfl)) (pe_ix (r := rIx K) ix_seq (pv 6) (pv 4) (fun _ _ => rfl))))) pa_nil)))))))))), ?_⟩
  try dsimp only [cxOf, L2.Cx.nox, L2.Cx.wish, L2.Cx.blk]
  rintro ds w R ⟨n, ps, qs, a, b, rfl, hn, hpa, hqb, hsm, q⟩
  have hpl := hpa.len
  have hql := hqb.len
  repeat' walk_at "dl"
  refine xd_listRgI ?_
  repeat' walk_at "dl"
  refine ⟨by omega, ?_⟩
  repeat' walk_at "dl"
  rw [hpl]
  -- the columns
  refine xd_frz (xd_lcR1P (gw_name (by decide)) ?_)
  repeat' walk_at "dl"
  rw [hql]
  refine ⟨by omega, by omega, fun k => dI (tab n fun i => b i k), fun k w' hk hs => ?_, fun p3 hp3 => ⟨p3, _, rfl, Wd.put_same, ?_⟩⟩
  · repeat' walk_at "dl"
    refine xd_frz (xd_lcLX (gw_name (by decide)) ?_)
    repeat' walk_at "dl"
    refine ⟨_, .lst _, by rw [List.length_map]; omega, fun i => b i k, fun i x w2 hx hs2 => ?_, fun p hp => ?_⟩
    · rw [List.getElem?_map] at hx
      obtain ⟨p, hp, rfl⟩ := Option.map_eq_some_iff.mp hx
      obtain ⟨r, hr1, hr2, hr3⟩ := ((hqb.sub hs).sub hs2).row i p hp
      repeat' walk_at "dl"
      rw [hr3 k (by omega)]
    · refine ⟨p, _, rfl, Wd.put_same, ?_, ?_⟩
      · rw [Wd.del_put hp]
      · rw [List.length_map, hql]
  rw [Wd.del_put hp3, Int.toNat_natCast]
  repeat' walk_at "dl"
  refine xd_lcLM (gw_name (by decide)) ?_
  repeat' walk_at "dl"
  refine ⟨_, .lst _, by rw [List.length_map]; omega, mm n a b, fun i x w' hx hs => ?_, fun w' rs hs hat hnw => q w' rs hs (by rw [List.length_map, hpl] at hat; exact hat) hnw⟩
  rw [List.getElem?_map] at hx
  obtain ⟨p, hp, rfl⟩ := Option.map_eq_some_iff.mp hx
  have hi : i < n := by
    have := (List.getElem?_eq_some_iff.mp hp).1
    omega
  obtain ⟨r, hr1, hr2, hr3⟩ := (hpa.sub hs).row i p hp
  refine gd_name ⟨rfl, ?_⟩
  refine xd_lcLX (gw_name (by decide)) ?_
  repeat' walk_at "dl"
  refine ⟨_, .lst _, by rw [List.length_map, List.length_range]; omega, fun j => mm n a b i j, fun j x w2 hx hs2 => ?_, fun p2 hp2 => ⟨p2, _, rfl, hp2, rfl, ?_, fun j hj => ?_⟩⟩
  · rw [List.getElem?_map] at hx
    obtain ⟨j', hj', rfl⟩ := Option.map_eq_some_iff.mp hx
    obtain ⟨hj2, ej⟩ := List.getElem?_eq_some_iff.mp hj'
    rw [List.getElem_range] at ej
    subst ej
    rw [List.length_range] at hj2
    have hr1' := hs2 p _ hr1
    refine gd_name ⟨rfl, ?_⟩
    refine xd_cb (ad_cons ?_)
    refine xd_lcLI (gw_name (by decide)) ?_
    repeat' walk_at "dl"
    refine ⟨by rw [tab_length]; omega, fun x => a i x.toNat * b x.toNat j, fun x w3 hx hs3 => ?_, ?_⟩
    · obtain ⟨k, hk, rfl⟩ : ∃ k : Nat, k < n ∧ x = (k : Int) := by
        obtain ⟨k, hk, e⟩ := List.mem_map.mp hx
        exact ⟨k, List.mem_range.mp hk, e.symm⟩
      have hr1'' := hs3 p _ hr1'
      have htl : (tab n fun i => b i j).length = n := tab_length
      repeat' walk_at "dl"
      refine od_mul (.inl (by rw [hr3 k hk]; exact hsm i k hi hk)) ?_
      rw [hr3 k hk, tab_at, if_pos hk]
      exact ⟨rfl, rfl⟩
    · have e : List.map (fun x : Int => a i x.toNat * b x.toNat j) (tab n fun i => (i : Int)) = tab n fun k => a i k * b k j := by
        unfold Mat.tab
        rw [List.map_map]
        rfl
      rw [e]
      exact ad_nil (cd_sumT (.lst _) ⟨rfl, rfl⟩)
  · rw [tab_length, List.length_map, List.length_range, List.length_map, hpl]
  · rw [tab_at, List.length_map, List.length_range, if_pos (by rw [List.length_map] at hj; omega)]
end
end K67
set_option Elab.async false
set_option linter.all false
set_option maxRecDepth 100000
set_option maxHeartbeats 4000000
namespace K67
open PySem PySem.Spec PyProof.Rows L2 DL
open Mat (tab tab_length tab_at trimP mulP subP Tr T sm mm ch ad dl)
local macro_rules | `(tactic| walk_at "wd") => `(tactic| first
  | exact Wd.put_same
  | exact Wd.at2 (by assumption)
  | assumption
  | exact Wd.put_of (by assumption) (by assumption)
  | exact Wd.put_of (by assumption) (Wd.put_of (by assumption) (by assumption))
  | fail "no world")
local macro_rules | `(tactic| walk_at "sd") => `(tactic| first
  | with_reducible refine sd_seq ?_
  | with_reducible refine sd_set ?_
  | with_reducible refine sd_asg ?_
  | with_reducible refine gd_name ?_
  | with_reducible refine sd_ret ?_
  | with_reducible refine sd_drop ?_
  | with_reducible refine sd_if ?_
  | with_reducible refine sd_par ?_
  | with_reducible refine sd_next ?_
  | with_reducible refine sd_break ?_
  | with_reducible refine sd_aug rfl ?_
  | fail "no step")
local macro_rules | `(tactic| walk_at "ix") => `(tactic| (with_reducible show OD _ (rIx _) _ _ _ _) <;> first
  | refine od_ix (.tup _) rfl ?_
  | refine od_ix (.lst [_, _, _, _]) rfl ?_
  | (refine od_ix (ds := ?dsx) (.obj ?hx) ?hy ?_; (case hx => walk_at "wd"); (case hy => exact rfl))
  | (refine od_ixLast (.lst _) ?_ ?_; (focus omega))
  | (refine od_ixLast (ns := ?nsx) (.obj ?hx) ?ha ?_; (case hx => walk_at "wd"); (case ha => omega))
  | (refine od_ixI (.lst _) ?_ ?_ ?_; (focus omega); (focus omega))
  | (refine od_ixM (.lst _) ?_ ?_ ?_; (focus omega); (focus omega))
  | (refine od_ixI (ns := ?nsx) (.obj ?hx) ?ha ?hb ?_; (case hx => walk_at "wd"); (case ha => omega); (case hb => omega))
  | (refine od_ixM (rows := ?nsx) (.obj ?hx) ?ha ?hb ?_; (case hx => walk_at "wd"); (case ha => omega); (case hb => omega))
  | fail "no index")
local macro_rules | `(tactic| walk_at "dl") => `(tactic| first
  | walk_at "sd"
  | with_reducible refine xd_int ?_
  | with_reducible refine xd_bl ?_
  | with_reducible refine xd_non ?_
  | with_reducible refine xd_str ?_
  | with_reducible refine xd_ty ?_
  | with_reducible refine xd_op ?_
  | with_reducible refine xd_un ?_
  | with_reducible refine xd_if ?_
  | with_reducible refine xd_tup ?_
  | with_reducible refine xd_cb ?_
  | with_reducible refine xd_call ?_
  | with_reducible refine xd_bm ?_
  | with_reducible refine xd_bm0 ?_
  | (refine And.intro (ty_list (ds := ?dsx) (.obj ?hx)) ?_; (case hx => walk_at "wd"))
  | (refine md_appI (ns := ?nsx) ?hx ?ha ?_; (case hx => walk_at "wd"); (case ha => omega))
  | (refine md_appM (rows := ?nsx) ?hx ?ha ?_; (case hx => walk_at "wd"); (case ha => omega))
  | (refine md_popI (ns := ?nsx) ?hx ?ha ?_; (case hx => walk_at "wd"); (case ha => omega))
  | with_reducible refine ad_nil ?_
  | with_reducible refine ad_cons ?_
  | with_reducible refine td_test ?_
  | with_reducible refine td_B ?_
  | with_reducible refine td_and ?_
  | with_reducible refine td_or ?_
  | with_reducible refine td_not ?_
  | with_reducible refine xd_andV ?_
  | with_reducible refine xd_orV ?_
  | with_reducible refine xd_notV ?_
  | with_reducible refine xd_sliceF ?_
  | with_reducible refine pd_none ?_
  | with_reducible refine pd_some ?_
  | with_reducible refine od_add ?_
  | with_reducible refine od_sub ?_
  | (with_reducible refine od_fdivR ?_ ?_; (focus omega))
  | (with_reducible refine od_modN ?_ ?_; (focus omega))
  | (with_reducible refine od_mulX ?_ ?_; (focus (refine mulB (by assumption) (by assumption) (by omega))))
  | with_reducible refine od_mulX ?_ ?_
  | (with_reducible refine od_mul ?_ ?_; (focus (first | exact Or.inl (by omega) | exact Or.inr (by omega))))
  | with_reducible refine od_lt ?_
  | with_reducible refine od_le ?_
  | with_reducible refine od_gt ?_
  | with_reducible refine od_ge ?_
  | with_reducible refine od_eqI ?_
  | with_reducible refine od_neI ?_
  | (refine od_eqL (.lst _) (.lst _) ?_; (focus skip))
  | (refine od_neL (.lst _) (.lst _) ?_; (focus skip))
  | refine od_isL ?_
  | with_reducible refine ud_neg ?_
  | with_reducible refine id_I ?_
  | refine cd_isi (b := true) (.int _) (by with_unfolding_all rfl) ?_
  | refine cd_isi (b := false) (.int _) (by with_unfolding_all rfl) ?_
  | refine cd_isi (b := true) (.lst _) (by with_unfolding_all rfl) ?_
  | with_reducible refine cd_max2 ?_
  | with_reducible refine cd_abs ?_
  | with_reducible refine cd_int1 ?_
  | with_reducible refine cd_intB ?_
  | refine cd_lenI (.lst _) ?_
  | refine cd_lenM (.lst _) ?_
  | (refine cd_lenI (ns := ?nsx) (.obj ?hx) ?_; (case hx => walk_at "wd"))
  | (refine cd_lenM (rows := ?nsx) (.obj ?hx) ?_; (case hx => walk_at "wd"))
  | refine cd_listF (.lst _) ?_
  | (refine cd_listF (ds := ?dsx) (.obj ?hx) ?_; (case hx => walk_at "wd"))
  | (refine od_catI (.lst _) (.lst _) ?_ ?_; (focus (first | omega | (simp only [List.length_append, List.length_map, tab_length]; omega))))
  | walk_at "ix"
  | with_reducible refine xd_var rfl ?_
  | with_reducible refine And.intro rfl ?_
  | with_reducible refine ⟨_, rfl, ?_⟩
  | with_reducible refine ⟨_, _, rfl, ?_⟩
  | (with_reducible refine And.intro (fun hb => ?_) (fun hb => ?_) <;> (try (exact absurd hb (by decide))) <;> (try simp only [decide_eq_true_eq, decide_eq_false_iff_not, Bool.not_eq_true', Bool.not_eq_false', Bool.true_eq_false, Bool.false_eq_true, Bool.not_eq_true, Bool.not_eq_false, Int.not_lt, Int.not_le] at hb))
  | with_reducible exact rfl
  | fail "no step")
local macro_rules | `(tactic| walk_at "ix") => `(tactic| (with_reducible show OD _ (rIx _) _ (.int (Nat.cast _)) _ _) <;> first
  | (refine od_ixIN (.lst _) ?_ ?_; (focus omega))
  | (refine od_ixMN (.lst _) ?_ ?_; (focus omega))
  | (refine od_ixIN (ns := ?nsx) (.obj ?hx) ?ha ?_; (case hx => walk_at "wd"); (case ha => omega))
  | (refine od_ixMN (rows := ?nsx) (.obj ?hx) ?ha ?_; (case hx => walk_at "wd"); (case ha => omega))
  | fail "no index")
local macro_rules | `(tactic| walk_at "dl") => `(tactic| first
  | (refine od_ixO (by assumption) ?_; (focus skip))
  | (refine od_ixT ?_ ?_; (focus omega))
  | refine cd_lenT ?_
  | refine cd_lenTI ?_
  | refine cd_lenO ?_
  | fail "no step")
theorem cnt_small {rows : List (List Int)} {n : Nat} (h : Sts rows n) (i j : Nat) : 0 ≤ smx rows i j ∧ smx rows i j ≤ 4 := by
  unfold smx cnt
  refine ⟨by omega, ?_⟩
  have h1 := List.length_filter_le (fun x => decide (x = (j : Int))) (rows.getD i [])
  have h2 : (rows.getD i []).length ≤ 4 := by
    rw [List.getD_eq_getElem?_getD]
    cases e : rows[i]? with
    | none => exact Nat.zero_le _
    | some r => exact (h.2 r (List.mem_of_getElem? e)).1
  omega
theorem tab_get (m : Nat) (f : Nat → Int) (k : Nat) (h : k < m) : (tab m f).getD k 0 = f k := (tab_at (n := m) (f := f) k).trans (if_pos h)
theorem tab_snoc (n : Nat) (f : Nat → Int) : tab n f ++ [f n] = tab (n + 1) f := by
  unfold Mat.tab
  rw [List.range_succ, List.map_append]
  rfl
def Zm (n : Nat) (A : Nat → Nat → Int) : Nat → Nat → Nat → Int
  | 0 => fun _ _ => 0
  | i + 1 => mm n A fun a b => ad n A a b i
theorem Zm_ad {n : Nat} {A : Nat → Nat → Int} {i a b : Nat} (ha : a < n) (hb : b < n) : Zm n A i a b + ch n A i * dl a b = ad n A a b i := by
  cases i with
  | zero =>
    show 0 + ch n A 0 * dl a b = _
    rw [Mat.ch_zero, Mat.ad_zero hb]; omega
  | succ i => exact Mat.ad_next i ha hb
section
variable {P : Program} {wo : World} {K : PySem.W.Frag} {mg : Str → Option Value} {base : Heap}
def fs_char : FS := fun ds w Q => ∃ (n : Nat) (rows : List (List Int)), ds = [tM rows] ∧ n ≤ 100 ∧ Sts rows n ∧ Q (dI (trimP (tab (n + 1) (ch n (smx rows))))) w
theorem ok_reversed_charpoly (G : Bltn mg) (hS : base.NoSeer) (hT : P.given.tree = none) (C_step_matrix : Cal P wo K mg base 41 "step_matrix" ["steps"] fs_step) (C_matrix_times : Cal P wo K mg base 41 "matrix_times" ["one", "other"] fs_mtimes) (C_trim_poly : Cal P wo K mg base 41 "trim_poly" ["row"] fs_trim)
    {f : Addr} {fd : FuncData} (F : Fun K "reversed_charpoly" "reversed_charpoly" s_reversed_charpoly f fd) : FnOk P wo K mg base CX0 42 f fd ["steps"] (spOf K fs_char) := by
  have nd := sc_reversed_charpoly.nd
  refine fn_ok F sc_reversed_charpoly (fun ds w Q h => ?_) fun cdv A outer s H E hr => ?_
  · obtain ⟨_, _, rfl, _⟩ := h
    rfl
  have hp := plain_of (N := n_reversed_charpoly) (wo := wo) (K := K) (mg := mg) (outer := outer) (H := H) (E := E) hS hT hr (by decide) rfl rfl
  refine ⟨_, (pss_cons (ps_set (i := 1) nd rfl (Or.inl rfl) (pe_calK C_step_matrix rfl rfl rfl rfl rfl (hr.mono (by decide)) (by rfl) (pa_cons (pv 0) pa_nil)))
  (pss_cons (ps_set (i := 2) nd rfl (Or.inl rfl) (pe_callB (r := rLenK K) call_len_seq (by rfl) G.len_ PySem.boot_len (pa_cons (pv 0) pa_nil)))
  (pss_cons (ps_set (i := 3) nd rfl (Or.inl rfl) (pe_lst (pa_cons pe_int pa_nil)))
  (pss_cons (ps_set (i := 4) nd rfl (Or.inr rfl) (pe_lc (own := [("state", 6)]) (g := gName 6) (tt := tYes) rfl nd (pi_tupK (K := K) rfl (pv 0)) (blkOk_by (own := [("state", 6)]) (N := n_reversed_charpoly) (sc := (defScope s_reversed_charpoly)) (by decide +kernel)) (fun _ _ _ _ _ => (pg_name (i := 6) nd rfl (Or.inl rfl))) (fun _ _ _ _ _ => pts_nil) (fun _ _ _ _ _ => (pe_lc (own := [("state", 6)]) (g := gName 6) (tt := tYes) rfl nd (pi_tupK (K := K) rfl (pv 0)) (blkOk_by (own := [("state", 6)]) (N := n_reversed_charpoly) (sc := (relS _ (defScope s_reversed_charpoly))) (by decide +kernel)) (fun _ _ _ _ _ => (pg_name (i := 6) nd rfl (Or.inl rfl))) (fun _ _ _ _ _ => pts_nil) (fun _ _ _ _ _ => pe_int)))))
  (pss_cons (ps_for PassesOwn.never rfl (pi_range2 (by rfl) G.range_ (pa_cons pe_int (pa_cons (pe_op op_add (pv 2) pe_int) pa_nil))) (pg_name (i := 5) nd rfl (Or.inl rfl)) (pss_cons (ps_for PassesOwn.never rfl (pi_range1 (by rfl) G.range_ (pa_cons (pv 2) pa_nil)) (pg_name (i := 6) nd rfl (Or.inl rfl)) (pss_one (ps_augS (pe_ix (r := rIx K) ix_seq (pv 4) (pv 6) (fun _ _ => rfl)) (pv 6) get_list (pe_ix (r := rIx K) ix_seq (pv 3) (pe_un un_neg pe_int) (fun _ _ => rfl)) ip_add set_list)))
  (pss_cons (ps_set (i := 4) nd rfl (Or.inr rfl) (pe_calK C_matrix_times rfl rfl rfl rfl rfl (hr.mono (by decide)) (by rfl) (pa_cons (pv 1) (pa_cons (pv 4) pa_nil))))
  (pss_one (ps_expr (pe_bm PySem.F.plainAttrs_list PySem.F.slot_list_append PySem.F.type_list_append mt_append (pv 3) (pa_cons (pe_op (op_fdivR hp) (pe_un un_neg (pe_callB (r := rSum K) (cr_sum rfl) (by rfl) G.sum_ (by decide +kernel) (pa_cons (pe_lc (own := [("state", 6)]) (g := gName 6) (tt := tYes) rfl nd (pi_range1 (by rfl) G.range_ (pa_cons (pv 2) pa_nil)) (blkOk_by (own := [("state", 6)]) (N := n_reversed_charpoly) (sc := (defScope s_reversed_charpoly)) (by decide +kernel)) (fun _ _ _ _ _ => (pg_name (i := 6) nd rfl (Or.inl rfl))) (fun _ _ _ _ _ => pts_nil) (fun _ _ _ _ _ => (pe_ix (r := rIx K) ix_seq (pe_ix (r := rIx K) ix_seq (pv 4) (pv 6) (fun _ _ => rfl)) (pv 6) (fun _ _ => rfl)))) pa_nil))) (pv 5)) pa_nil)))))))
  (pss_one (ps_ret (pe_calK C_trim_poly rfl rfl rfl rfl rfl (hr.mono (by decide)) (by rfl) (pa_cons (pv 3) pa_nil))))))))), ?_⟩
  try dsimp only [cxOf, L2.Cx.nox, L2.Cx.wish, L2.Cx.blk]
  rintro ds w R ⟨n, rows, rfl, hn, hst, q⟩
  have hrl := hst.1
  generalize hA : smx rows = A at *
  have hAs : ∀ i j, 0 ≤ A i j ∧ A i j ≤ 4 := fun i j => by rw [← hA]; exact cnt_small hst i j
  refine sd_sub ?_
  repeat' walk_at "dl"
  refine ⟨n, rows, rfl, hn, hst, fun w1 ps hs1 hps hpn => ?_⟩
  rw [hA] at hps
  repeat' walk_at "dl"
  rw [hrl]
  refine xd_lst ?_
  repeat' walk_at "dl"
  refine ⟨by decide, fun pf hpf => ?_⟩
  repeat' walk_at "dl"
  refine xd_lcTM (gw_name (by decide)) ?_
  repeat' walk_at "dl"
  refine ⟨by rw [List.length_map]; omega, fun _ _ => 0, fun i x w' hx hs => gd_name ⟨rfl, ?_⟩, fun w3 qs hs3 hqs hqn => ?_⟩
  · refine xd_lcTX (gw_name (by decide)) (xd_var rfl ⟨_, rfl, by rw [List.length_map]; omega, fun _ => 0, fun i x w2 hx hs => gd_name ⟨rfl, xd_int ⟨rfl, rfl⟩⟩, fun p hp => ⟨p, tab _ _, rfl, hp, rfl, tab_length, fun j hj => by rw [tab_at, if_pos hj]⟩⟩)
  rw [List.length_map, hrl] at hqs
  have pfps : pf ∉ ps := fun h => by
    obtain ⟨k, hk, e⟩ := List.getElem_of_mem h
    obtain ⟨r, h1, _⟩ := hps.row k pf (by rw [List.getElem?_eq_getElem hk, e])
    rw [hpf] at h1; cases h1
  have wpf : w pf = none := by
    cases e : w pf with
    | none => rfl
    | some xs =>
      have := hs1 pf xs e
      rw [hpf] at this; cases this
  have hs1f : DL.sub w1 (w1.put pf [.int 1]) := sub_put hpf
  have hs03 : DL.sub w w3 := fun a xs e => hs3 a xs (hs1f a xs (hs1 a xs e))
  have hps3 : At w3 ps n A := (hps.sub hs1f).sub hs3
  have hf3 : w3 pf = some ((tab 1 (ch n A)).map .int) := by
    refine hs3 pf _ ?_
    rw [Wd.put_same]
    show _ = some [Dat.int (ch n A 0)]
    rw [Mat.ch_zero]
  have qnp : ∀ z ∈ qs, z ∉ ps := fun z hz hz2 => by
    have e0 := hqn z hz
    obtain ⟨k, hk, e⟩ := List.getElem_of_mem hz2
    obtain ⟨r, h1, _⟩ := (hps.sub hs1f).row k z (by rw [List.getElem?_eq_getElem hk, e])
    rw [e0] at h1; cases h1
  have pfq : pf ∉ qs := fun h => by
    have e0 := hqn pf h
    rw [Wd.put_same] at e0; cases e0
  have wqn : ∀ z ∈ qs, w z = none := fun z hz => by
    cases e : w z with
    | none => rfl
    | some xs =>
      have := hs1f z xs (hs1 z xs e)
      rw [hqn z hz] at this; cases this
  clear hqn hs3 hs1f hps hpn hpf hs1
  repeat' walk_at "dl"
  refine sd_forR2 ?_
  repeat' walk_at "dl"
  refine ⟨⟨by omega, by omega, by omega, by omega⟩, fun i ρ' w' => ∃ (qs : List Addr) (o5 o6 : Option Dat), ρ' = [some (tM rows), some (dO ps), some (.int n), some (.obj pf), some (dO qs), o5, o6] ∧ DL.sub w w' ∧ At w' ps n A ∧ w' pf = some ((tab (i + 1) (ch n A)).map .int) ∧ At w' qs n (Zm n A i) ∧ (∀ z ∈ qs, z ∉ ps) ∧ pf ∉ qs ∧ ∀ z ∈ qs, w z = none, ⟨qs, none, none, rfl, hs03, hps3, hf3, hqs, qnp, pfq, wqn⟩, ?_, ?_⟩
  · clear wqn pfq qnp hf3 hps3 hs03 hqs
    rintro i ρ' w' hi ⟨qs, o5, o6, rfl, hs1, hps, hf, hqs, qnp, pfq, wqn⟩
    repeat' walk_at "dl"
    refine sd_to (fun ρ' w' => ∃ o6 : Option Dat, ρ' = [some (tM rows), some (dO ps), some (.int n), some (.obj pf), some (dO qs), some (.int (1 + i)), o6] ∧ DL.sub w w' ∧ At w' ps n A ∧ w' pf = some ((tab (i + 1) (ch n A)).map .int) ∧ At w' qs n (fun a b => ad n A a b i)) ?_ ?_
    · refine sd_forR1 ?_
      repeat' walk_at "dl"
      refine ⟨by omega, by omega, fun t ρ' w' => ∃ o6 : Option Dat, ρ' = [some (tM rows), some (dO ps), some (.int n), some (.obj pf), some (dO qs), some (.int (1 + i)), o6] ∧ DL.sub w w' ∧ At w' ps n A ∧ w' pf = some ((tab (i + 1) (ch n A)).map .int) ∧ At w' qs n (fun a b => if a < t then Zm n A i a b + ch n A i * dl a b else Zm n A i a b), ⟨o6, rfl, hs1, hps, hf, hqs.congr fun a b _ _ => by rw [if_neg (by omega)]⟩, ?_, ?_⟩
      · rintro t ρ' w2 ht ⟨o6, rfl, hs1, hps, hf, hqs⟩
        have ht' : t < n := by omega
        obtain ⟨z, hz⟩ : ∃ z, qs[t]? = some z := ⟨_, List.getElem?_eq_getElem (by rw [hqs.len]; exact ht')⟩
        have hzm := List.mem_of_getElem? hz
        obtain ⟨r, hr1, hr2, hr3⟩ := hqs.row t z hz
        have htl : (tab (i + 1) (ch n A)).length = i + 1 := tab_length
        repeat' walk_at "dl"
        refine sd_augI ?_
        repeat' walk_at "dl"
        refine ⟨z, r, _, rfl, rfl, hr1, by omega, by omega, ?_⟩
        rw [Int.toNat_natCast]
        repeat' walk_at "dl"
        refine ⟨sub_put2 hs1 (wqn z hzm), hps.put (qnp z hzm), by rw [Wd.put_ne (by rintro rfl; exact pfq hzm)]; exact hf, (hqs.set hz hr1 ht').congr fun a b ha hb => ?_⟩
        rw [htl, Nat.add_sub_cancel, tab_get (i + 1) (ch n A) i (by omega), hr3 t ht', if_neg (Nat.lt_irrefl t)]
        by_cases h1 : a = t
        · subst h1
          rw [if_pos (show a < a + 1 by omega)]
          by_cases h2 : b = a
          · subst h2
            rw [if_pos ⟨rfl, rfl⟩, Mat.dl_self, Int.mul_one]
          · rw [if_neg (by omega), if_neg (Nat.lt_irrefl a), Mat.dl_ne h2, Int.mul_zero, Int.add_zero]
        · rw [if_neg (show ¬ (a = t ∧ b = t) by omega)]
          by_cases h2 : a < t
          · rw [if_pos h2, if_pos (by omega)]
          · rw [if_neg h2, if_neg (by omega)]
      rintro ρ' w2 ⟨o6, rfl, hs1, hps, hf, hqs⟩
      exact ⟨o6, rfl, hs1, hps, hf, hqs.congr fun a b ha hb => by rw [Int.toNat_natCast, if_pos ha, Zm_ad ha hb]⟩
    clear hqs hf hps hs1
    rintro ρ' w2 ⟨o6, rfl, hs1, hps, hf, hqs⟩
    repeat' walk_at "dl"
    refine ⟨n, ps, qs, A, _, rfl, hn, hps, hqs, fun i j _ _ => ⟨by have := hAs i j; omega, by have := hAs i j; omega⟩, fun w4 rs hs4 hrs hrn => ?_⟩
    have hf4 := hs4 pf _ hf
    have htl : (tab (i + 1) (ch n A)).length = i + 1 := tab_length
    have hps4 := hps.sub hs4
    have pfr : pf ∉ rs := fun h => by
      have e0 := hrn pf h
      rw [hf] at e0; cases e0
    have rnp : ∀ z ∈ rs, z ∉ ps := fun z hz hz2 => by
      have e0 := hrn z hz
      obtain ⟨k, hk, e⟩ := List.getElem_of_mem hz2
      obtain ⟨r, h1, _⟩ := hps.row k z (by rw [List.getElem?_eq_getElem hk, e])
      rw [e0] at h1; cases h1
    have wrn : ∀ z ∈ rs, w z = none := fun z hz => by
      cases e : w z with
      | none => rfl
      | some xs =>
        have := hs1 z xs e
        rw [hrn z hz] at this; cases this
    repeat' walk_at "dl"
    refine xd_lcR1I (gw_name (by decide)) ?_
    repeat' walk_at "dl"
    refine ⟨_, fun s => mm n A (fun a b => ad n A a b i) s s, rfl, by omega, by omega, fun s w5 hs hs5 => ?_, ?_⟩
    · have hs' : s < n := by omega
      obtain ⟨z, hz⟩ : ∃ z, rs[s]? = some z := ⟨_, List.getElem?_eq_getElem (by rw [hrs.len]; exact hs')⟩
      obtain ⟨r, hr1, hr2, hr3⟩ := (hrs.sub hs5).row s z hz
      repeat' walk_at "dl"
      rw [hr3 s hs']
    rw [Int.toNat_natCast]
    refine ad_nil (cd_sumT (.lst _) ?_)
    repeat' walk_at "dl"
    have ec : (-sm (fun s => mm n A (fun a b => ad n A a b i) s s) n).fdiv (1 + (i : Int)) = ch n A (i + 1) := by
      refine Mat.fdiv_of (by omega) ?_
      have := Mat.ch_trace (n := n) (A := A) i
      rw [show (1 + (i : Int)) = ((i + 1 : Nat) : Int) by omega, this]
      rfl
    rw [ec]
    refine ⟨rs, _, _, rfl, fun a xs e => ?_, hps4.put pfps, ?_, hrs.put pfr, rnp, pfr, wrn⟩
    · rw [Wd.put_ne]
      · exact hs4 a xs (hs1 a xs e)
      · rintro rfl
        rw [wpf] at e; cases e
    · rw [Wd.put_same]
      exact congrArg (fun l => some (List.map Dat.int l)) (tab_snoc (i + 1) (ch n A))
  rintro ρ' w' ⟨qs, o5, o6, rfl, hs1, hps, hf, hqs, qnp, pfq, wqn⟩
  refine sd_frz (n := 3) rfl hf ?_
  repeat' walk_at "dl"
  refine ⟨_, rfl, w, fun a xs e => ?_, by rw [show ((n : Int) + 1 - 1).toNat = n by omega]; exact q⟩
  unfold Wd.del
  rw [if_neg (by rintro rfl; rw [wpf] at e; cases e)]
  exact hs1 a xs e
def fs_value : FS := fun ds w Q => ∃ (row : List Int) (t : Nat), ds = [dI row, .int t] ∧ row.length ≤ 1000 ∧ t ≤ 1000 ∧ Q (.int (sm (fun k => row.getD k 0 * (t : Int) ^ k) row.length)) w
theorem ok_law_value (G : Bltn mg) {f : Addr} {fd : FuncData} (F : Fun K "_law_value" "_law_value" s_law_value f fd) : FnOk P wo K mg base CX0 41 f fd ["row", "place"] (spOf K fs_value) := by
  have nd := sc_law_value.nd
  refine fn_ok F sc_law_value (fun ds w Q h => ?_) fun cdv A outer s H E hr => ?_
  · obtain ⟨_, _, rfl, _⟩ := h
    rfl
  refine ⟨_, (pss_cons (ps_set (i := 2) nd rfl (Or.inl rfl) pe_int)
  (pss_cons (ps_for PassesOwn.never rfl (pi_range1 (by rfl) G.range_ (pa_cons (pe_callB (r := rLenK K) call_len_seq (by rfl) G.len_ PySem.boot_len (pa_cons (pv 0) pa_nil)) pa_nil)) (pg_name (i := 3) nd rfl (Or.inl rfl)) (pss_one (ps_set (i := 2) nd rfl (Or.inl rfl) (pe_op op_add (pe_op op_mul (pv 2) (pv 1)) (pe_ix (r := rIx K) ix_seq (pv 0) (pe_op op_sub (pe_op op_sub (pe_callB (r := rLenK K) call_len_seq (by rfl) G.len_ PySem.boot_len (pa_cons (pv 0) pa_nil)) pe_int) (pv 3)) (fun _ _ => rfl))))))
  (pss_one (ps_ret (pv 2))))), ?_⟩
  try dsimp only [cxOf, L2.Cx.nox, L2.Cx.wish, L2.Cx.blk]
  rintro ds w R ⟨row, t, rfl, hl, ht, q⟩
  repeat' walk_at "dl"
  refine sd_forR1 ?_
  repeat' walk_at "dl"
  refine ⟨by omega, by omega, fun k ρ' w' => ∃ o3 : Option Dat, ρ' = [some (dI row), some (.int t), some (.int (sm (fun j => row.getD (row.length - k + j) 0 * (t : Int) ^ j) k)), o3] ∧ w' = w, ⟨none, rfl, rfl⟩, ?_, ?_⟩
  · rintro k ρ' w' hk ⟨o3, rfl, rfl⟩
    repeat' walk_at "dl"
    refine od_mul (.inr ⟨by omega, by omega⟩) ?_
    repeat' walk_at "dl"
    have hk' : k < row.length := by omega
    rw [show ((row.length : Int) - 1 - (k : Int)).toNat = row.length - 1 - k by omega]
    refine ⟨some (.int k), ?_, rfl⟩
    have e : sm (fun j => row.getD (row.length - k + j) 0 * (t : Int) ^ j) k * (t : Int) + row.getD (row.length - 1 - k) 0 = sm (fun j => row.getD (row.length - (k + 1) + j) 0 * (t : Int) ^ j) (k + 1) := by
      rw [Mat.sm_front, ← Mat.sm_mulr]
      rw [Mat.sm_congr (f := fun j => row.getD (row.length - (k + 1) + (j + 1)) 0 * (t : Int) ^ (j + 1)) (g := fun j => row.getD (row.length - k + j) 0 * (t : Int) ^ j * (t : Int)) fun j _ => by
        rw [show row.length - (k + 1) + (j + 1) = row.length - k + j by omega, Int.pow_succ, Int.mul_assoc]]
      rw [show row.length - (k + 1) + 0 = row.length - 1 - k by omega, Int.pow_zero, Int.mul_one]
      omega
    rw [← e]
    rfl
  rintro ρ' w' ⟨o3, rfl, rfl⟩
  repeat' walk_at "dl"
  rw [Int.toNat_natCast, Nat.sub_self]
  rw [Mat.sm_congr (g := fun k => row.getD k 0 * (t : Int) ^ k) fun k _ => by rw [Nat.zero_add]]
  exact q
end
end K67
set_option Elab.async false
set_option linter.all false
set_option maxRecDepth 100000
set_option maxHeartbeats 4000000
namespace K67
open PySem PySem.Spec PyProof.Rows L2 DL
open Mat (tab tab_length tab_at trimP mulP subP Tr T sm mm ch ad dl now)
local macro_rules | `(tactic| walk_at "wd") => `(tactic| first
  | exact Wd.put_same
  | exact Wd.at2 (by assumption)
  | assumption
  | exact Wd.put_of (by assumption) (by assumption)
  | exact Wd.put_of (by assumption) (Wd.put_of (by assumption) (by assumption))
  | fail "no world")
local macro_rules | `(tactic| walk_at "sd") => `(tactic| first
  | with_reducible refine sd_seq ?_
  | with_reducible refine sd_set ?_
  | with_reducible refine sd_asg ?_
  | with_reducible refine gd_name ?_
  | with_reducible refine sd_ret ?_
  | with_reducible refine sd_drop ?_
  | with_reducible refine sd_if ?_
  | with_reducible refine sd_par ?_
  | with_reducible refine sd_next ?_
  | with_reducible refine sd_break ?_
  | with_reducible refine sd_aug rfl ?_
  | fail "no step")
local macro_rules | `(tactic| walk_at "ix") => `(tactic| (with_reducible show OD _ (rIx _) _ _ _ _) <;> first
  | refine od_ix (.tup _) rfl ?_
  | refine od_ix (.lst [_, _, _, _]) rfl ?_
  | (refine od_ix (ds := ?dsx) (.obj ?hx) ?hy ?_; (case hx => walk_at "wd"); (case hy => exact rfl))
  | (refine od_ixLast (.lst _) ?_ ?_; (focus omega))
  | (refine od_ixLast (ns := ?nsx) (.obj ?hx) ?ha ?_; (case hx => walk_at "wd"); (case ha => omega))
  | (refine od_ixI (.lst _) ?_ ?_ ?_; (focus omega); (focus omega))
  | (refine od_ixM (.lst _) ?_ ?_ ?_; (focus omega); (focus omega))
  | (refine od_ixI (ns := ?nsx) (.obj ?hx) ?ha ?hb ?_; (case hx => walk_at "wd"); (case ha => omega); (case hb => omega))
  | (refine od_ixM (rows := ?nsx) (.obj ?hx) ?ha ?hb ?_; (case hx => walk_at "wd"); (case ha => omega); (case hb => omega))
  | fail "no index")
local macro_rules | `(tactic| walk_at "dl") => `(tactic| first
  | walk_at "sd"
  | with_reducible refine xd_int ?_
  | with_reducible refine xd_bl ?_
  | with_reducible refine xd_non ?_
  | with_reducible refine xd_str ?_
  | with_reducible refine xd_ty ?_
  | with_reducible refine xd_op ?_
  | with_reducible refine xd_un ?_
  | with_reducible refine xd_if ?_
  | with_reducible refine xd_tup ?_
  | with_reducible refine xd_cb ?_
  | with_reducible refine xd_call ?_
  | with_reducible refine xd_bm ?_
  | with_reducible refine xd_bm0 ?_
  | (refine And.intro (ty_list (ds := ?dsx) (.obj ?hx)) ?_; (case hx => walk_at "wd"))
  | (refine md_appI (ns := ?nsx) ?hx ?ha ?_; (case hx => walk_at "wd"); (case ha => omega))
  | (refine md_appM (rows := ?nsx) ?hx ?ha ?_; (case hx => walk_at "wd"); (case ha => omega))
  | (refine md_popI (ns := ?nsx) ?hx ?ha ?_; (case hx => walk_at "wd"); (case ha => omega))
  | with_reducible refine ad_nil ?_
  | with_reducible refine ad_cons ?_
  | with_reducible refine td_test ?_
  | with_reducible refine td_B ?_
  | with_reducible refine td_and ?_
  | with_reducible refine td_or ?_
  | with_reducible refine td_not ?_
  | with_reducible refine xd_andV ?_
  | with_reducible refine xd_orV ?_
  | with_reducible refine xd_notV ?_
  | with_reducible refine xd_sliceF ?_
  | with_reducible refine pd_none ?_
  | with_reducible refine pd_some ?_
  | with_reducible refine od_add ?_
  | with_reducible refine od_sub ?_
  | (with_reducible refine od_fdivR ?_ ?_; (focus omega))
  | (with_reducible refine od_modN ?_ ?_; (focus omega))
  | (with_reducible refine od_mulX ?_ ?_; (focus (refine mulB (by assumption) (by assumption) (by omega))))
  | with_reducible refine od_mulX ?_ ?_
  | (with_reducible refine od_mul ?_ ?_; (focus (first | exact Or.inl (by omega) | exact Or.inr (by omega))))
  | with_reducible refine od_lt ?_
  | with_reducible refine od_le ?_
  | with_reducible refine od_gt ?_
  | with_reducible refine od_ge ?_
  | with_reducible refine od_eqI ?_
  | with_reducible refine od_neI ?_
  | (refine od_eqL (.lst _) (.lst _) ?_; (focus skip))
  | (refine od_neL (.lst _) (.lst _) ?_; (focus skip))
  | refine od_isL ?_
  | with_reducible refine ud_neg ?_
  | with_reducible refine id_I ?_
  | refine cd_isi (b := true) (.int _) (by with_unfolding_all rfl) ?_
  | refine cd_isi (b := false) (.int _) (by with_unfolding_all rfl) ?_
  | refine cd_isi (b := true) (.lst _) (by with_unfolding_all rfl) ?_
  | with_reducible refine cd_max2 ?_
  | with_reducible refine cd_abs ?_
  | with_reducible refine cd_int1 ?_
  | with_reducible refine cd_intB ?_
  | refine cd_lenI (.lst _) ?_
  | refine cd_lenM (.lst _) ?_
  | (refine cd_lenI (ns := ?nsx) (.obj ?hx) ?_; (case hx => walk_at "wd"))
  | (refine cd_lenM (rows := ?nsx) (.obj ?hx) ?_; (case hx => walk_at "wd"))
  | refine cd_listF (.lst _) ?_
  | (refine cd_listF (ds := ?dsx) (.obj ?hx) ?_; (case hx => walk_at "wd"))
  | (refine od_catI (.lst _) (.lst _) ?_ ?_; (focus (first | omega | (simp only [List.length_append, List.length_map, tab_length]; omega))))
  | walk_at "ix"
  | with_reducible refine xd_var rfl ?_
  | with_reducible refine And.intro rfl ?_
  | with_reducible refine ⟨_, rfl, ?_⟩
  | with_reducible refine ⟨_, _, rfl, ?_⟩
  | (with_reducible refine And.intro (fun hb => ?_) (fun hb => ?_) <;> (try (exact absurd hb (by decide))) <;> (try simp only [decide_eq_true_eq, decide_eq_false_iff_not, Bool.not_eq_true', Bool.not_eq_false', Bool.true_eq_false, Bool.false_eq_true, Bool.not_eq_true, Bool.not_eq_false, Int.not_lt, Int.not_le] at hb))
  | with_reducible exact rfl
  | fail "no step")
local macro_rules | `(tactic| walk_at "ix") => `(tactic| (with_reducible show OD _ (rIx _) _ (.int (Nat.cast _)) _ _) <;> first
  | (refine od_ixIN (.lst _) ?_ ?_; (focus omega))
  | (refine od_ixMN (.lst _) ?_ ?_; (focus omega))
  | (refine od_ixIN (ns := ?nsx) (.obj ?hx) ?ha ?_; (case hx => walk_at "wd"); (case ha => omega))
  | (refine od_ixMN (rows := ?nsx) (.obj ?hx) ?ha ?_; (case hx => walk_at "wd"); (case ha => omega))
  | fail "no index")
local macro_rules | `(tactic| walk_at "dl") => `(tactic| first
  | (refine od_ixO (by assumption) ?_; (focus skip))
  | (refine od_ixT ?_ ?_; (focus omega))
  | refine cd_lenT ?_
  | refine cd_lenTI ?_
  | refine cd_lenO ?_
  | fail "no step")
local macro_rules | `(tactic| walk_at "ix") => `(tactic| (with_reducible show OD _ (rIx _) _ (.int (Nat.cast _)) _ _) <;> first
  | (refine od_ixIN (.tup _) ?_ ?_; (focus omega))
  | (refine od_ixT ?_ ?_; (focus omega))
  | fail "no index")
/-! the numbers of ways are small -/
theorem now_nn {n : Nat} {A : Nat → Nat → Int} (hA : ∀ i j, 0 ≤ A i j) : ∀ m c, 0 ≤ now n A m c
  | 0, c => by
    show 0 ≤ (if c = 0 then (1 : Int) else 0)
    split <;> omega
  | m + 1, c => by
    show 0 ≤ sm (fun k => now n A m k * A k c) n
    have : ∀ (f : Nat → Int) (l : Nat), (∀ k, 0 ≤ f k) → 0 ≤ sm f l := fun f l h => by
      induction l with
      | zero => exact Int.le_refl 0
      | succ l ih => exact Int.add_nonneg ih (h l)
    exact this _ _ fun k => Int.mul_nonneg (now_nn hA m k) (hA k c)
theorem sm_le {f g : Nat → Int} {n : Nat} (h : ∀ k, k < n → f k ≤ g k) : sm f n ≤ sm g n := by
  induction n with
  | zero => exact Int.le_refl 0
  | succ n ih => exact Int.add_le_add (ih fun k hk => h k (by omega)) (h n (by omega))
theorem now_sum {n : Nat} {A : Nat → Nat → Int} (hn : 0 < n) (hA : ∀ i j, 0 ≤ A i j) (hr : ∀ i, i < n → sm (A i) n ≤ 4) : ∀ m, sm (now n A m) n ≤ 4 ^ m
  | 0 => by
    have e : sm (now n A 0) n = 1 := by
      rw [Mat.sm_one (p := 0) hn fun k _ h => ?_]
      · rfl
      · exact if_neg h
    rw [e]; decide
  | m + 1 => by
    have e : sm (now n A (m + 1)) n = sm (fun k => now n A m k * sm (A k) n) n := by
      show sm (fun c => sm (fun k => now n A m k * A k c) n) n = _
      rw [Mat.sm_swap]
      exact Mat.sm_congr fun k _ => Mat.sm_mul
    rw [e]
    have h1 : sm (fun k => now n A m k * sm (A k) n) n ≤ sm (fun k => now n A m k * 4) n := sm_le fun k hk => Int.mul_le_mul_of_nonneg_left (hr k hk) (now_nn hA m k)
    rw [Mat.sm_mulr] at h1
    have h2 := now_sum hn hA hr m
    rw [Int.pow_succ]
    omega
theorem cnt_row {n : Nat} : ∀ r : List Int, sm (fun j => cnt r j) n ≤ r.length
  | [] => by
    rw [Mat.sm_zero fun k _ => cnt_nil k]
    exact Int.le_refl 0
  | x :: r => by
    have h1 : ∀ j : Nat, cnt (x :: r) j = (if x = j then 1 else 0) + cnt r j := fun j => by
      unfold cnt
      rw [List.filter_cons]
      by_cases h : x = j
      · rw [if_pos (by simpa using h), if_pos h, List.length_cons]; omega
      · rw [if_neg (by simpa using h), if_neg h]; omega
    rw [Mat.sm_congr fun j _ => h1 j, Mat.sm_add]
    have h2 : sm (fun j : Nat => if x = (j : Int) then (1 : Int) else 0) n ≤ 1 := by
      by_cases hx : 0 ≤ x ∧ x < n
      · rw [Mat.sm_one (p := x.toNat) (by omega) fun k _ hk => if_neg (by omega)]
        split <;> omega
      · rw [Mat.sm_zero fun k hk => if_neg (by omega)]
        decide
    have h3 : sm (cnt r) n ≤ r.length := cnt_row (n := n) r
    have h4 : sm (fun j : Nat => cnt r j) n = sm (cnt r) n := rfl
    rw [List.length_cons]
    omega
/-- accepted words of a length -/
def acc (n : Nat) (A : Nat → Nat → Int) (bits : List Int) (m : Nat) : Int := sm (fun k => if decide (bits.getD k 0 = 1) = true then now n A m k else 0) n
theorem acc_small {n : Nat} {rows : List (List Int)} {bits : List Int} (hn : 0 < n) (hst : Sts rows n) {m : Nat} (hm : m ≤ 20) : -(2 ^ 64) < acc n (smx rows) bits m ∧ acc n (smx rows) bits m < 2 ^ 64 := by
  have hA : ∀ i j, 0 ≤ smx rows i j := fun i j => (cnt_small hst i j).1
  have h1 := now_sum hn hA (fun i hi => by
    have h2 := cnt_row (n := n) (rows.getD i [])
    have h3 : (rows.getD i []).length ≤ 4 := by
      rw [List.getD_eq_getElem?_getD]
      cases e : rows[i]? with
      | none => exact Nat.zero_le _
      | some r => exact (hst.2 r (List.mem_of_getElem? e)).1
    show sm (fun j => cnt (rows.getD i []) j) n ≤ 4
    omega) m
  have h2 : acc n (smx rows) bits m ≤ sm (now n (smx rows) m) n := sm_le fun k _ => by
    have := now_nn (n := n) hA m k
    split <;> omega
  have h3 : 0 ≤ acc n (smx rows) bits m := by
    have := sm_le (f := fun _ => 0) (g := fun k => if decide (bits.getD k 0 = 1) = true then now n (smx rows) m k else 0) (n := n) fun k _ => by
      have := now_nn (n := n) hA m k
      split <;> omega
    rw [Mat.sm_zero fun k _ => rfl] at this
    exact this
  have h4 : (4 : Int) ^ m ≤ 4 ^ 20 := by
    have := Nat.pow_le_pow_right (n := 4) (by decide) hm
    exact_mod_cast this
  have h5 : (4 : Int) ^ 20 = 1099511627776 := by decide
  omega
section
variable {P : Program} {wo : World} {K : PySem.W.Frag} {mg : Str → Option Value} {base : Heap}
abbrev auD (x : Str) (rows : List (List Int)) (bits : List Int) : Dat := .tup [.str "auto", .str x, tM rows, tI bits]
def fs_counts : FS := fun ds w Q => ∃ (n : Nat) (x : Str) (rows : List (List Int)) (bits : List Int) (most : Nat), ds = [auD x rows bits, .int most] ∧ n ≤ 100 ∧ most ≤ 1000 ∧ Sts rows n ∧ bits.length = n ∧ Q (dI (tab (most + 1) (acc n (smx rows) bits))) w
theorem ok_law_accepted_counts (G : Bltn mg) {f : Addr} {fd : FuncData} (F : Fun K "_law_accepted_counts" "_law_accepted_counts" s_law_accepted_counts f fd) : FnOk P wo K mg base CX0 41 f fd ["auto", "most"] (spOf K fs_counts) := by
  have nd := sc_law_accepted_counts.nd
  refine fn_ok F sc_law_accepted_counts (fun ds w Q h => ?_) fun cdv A outer s H E hr => ?_
  · obtain ⟨_, _, _, _, _, rfl, _⟩ := h
    rfl
  refine ⟨_, (pss_cons (ps_set (i := 2) nd rfl (Or.inr rfl) (pe_lc (own := [("k", 6)]) (g := gName 6) (tt := tYes) rfl nd (pi_range1 (by rfl) G.range_ (pa_cons (pe_callB (r := rLenK K) call_len_seq (by rfl) G.len_ PySem.boot_len (pa_cons (pe_ix (r := rIx K) ix_seq (pv 0) pe_int (fun _ _ => rfl)) pa_nil)) pa_nil)) (blkOk_by (own := [("k", 6)]) (N := n_law_accepted_counts) (sc := (defScope s_law_accepted_counts)) (by decide +kernel)) (fun _ _ _ _ _ => (pg_name (i := 6) nd rfl (Or.inl rfl))) (fun _ _ _ _ _ => pts_nil) (fun _ _ _ _ _ => (pe_callTy call_int1 (by rfl) G.int_ (by decide +kernel) (pa_cons (pe_cmpR op_eq (pv 6) pe_int (nomark _)) pa_nil)))))
  (pss_cons (ps_set (i := 3) nd rfl (Or.inl rfl) (pe_lst pa_nil))
  (pss_cons (ps_for PassesOwn.never rfl (pi_range1 (by rfl) G.range_ (pa_cons (pe_op op_add (pv 1) pe_int) pa_nil)) (pg_name (i := 4) nd rfl (Or.inl rfl)) (pss_cons (ps_expr (pe_bm PySem.F.plainAttrs_list PySem.F.slot_list_append PySem.F.type_list_append mt_append (pv 3) (pa_cons (pe_callB (r := rSum K) (cr_sum rfl) (by rfl) G.sum_ (by decide +kernel) (pa_cons (pe_lc (own := [("k", 6)]) (g := gName 6)  rfl nd (pi_range1 (by rfl) G.range_ (pa_cons (pe_callB (r := rLenK K) call_len_seq (by rfl) G.len_ PySem.boot_len (pa_cons (pv 2) pa_nil)) pa_nil)) (blkOk_by (own := [("k", 6)]) (N := n_law_accepted_counts) (sc := (defScope s_law_accepted_counts)) (by decide +kernel)) (fun _ _ _ _ _ => (pg_name (i := 6) nd rfl (Or.inl rfl))) (fun _ _ _ _ _ => pts_one (pt_cmpR op_eq (pe_ix (r := rIx K) ix_seq (pe_ix (r := rIx K) ix_seq (pv 0) pe_int (fun _ _ => rfl)) (pv 6) (fun _ _ => rfl)) pe_int (nomark _))) (fun _ _ _ _ _ => (pe_ix (r := rIx K) ix_seq (pv 2) (pv 6) (fun _ _ => rfl)))) pa_nil)) pa_nil)))
  (pss_cons (ps_setLc (i := 5) (own := [("bit", 8)]) (g := gName 8) (tt := tYes) rfl nd rfl rfl (sw_true rfl rfl rfl (by decide +kernel)) (pi_tupK (K := K) rfl (pe_ix (r := rIx K) ix_seq (pv 0) pe_int (fun _ _ => rfl))) (blkOk_by (own := [("bit", 8)]) (N := n_law_accepted_counts) (sc := (defScope s_law_accepted_counts)) (by decide +kernel)) (fun _ _ _ _ _ => (pg_name (i := 8) nd rfl (Or.inl rfl))) (fun _ _ _ _ _ => pts_nil) (fun _ _ _ _ _ => pe_int))
  (pss_cons (ps_for PassesOwn.never rfl (pi_range1 (by rfl) G.range_ (pa_cons (pe_callB (r := rLenK K) call_len_seq (by rfl) G.len_ PySem.boot_len (pa_cons (pv 2) pa_nil)) pa_nil)) (pg_name (i := 6) nd rfl (Or.inl rfl)) (pss_one (ps_for PassesOwn.never rfl (pi_tupK (K := K) rfl (pe_ix (r := rIx K) ix_seq (pe_ix (r := rIx K) ix_seq (pv 0) pe_int (fun _ _ => rfl)) (pv 6) (fun _ _ => rfl))) (pg_name (i := 7) nd rfl (Or.inl rfl)) (pss_one (ps_augS (pv 5) (pv 7) get_list (pe_ix (r := rIx K) ix_seq (pv 2) (pv 6) (fun _ _ => rfl)) ip_add set_list)))))
  (pss_one (ps_set (i := 2) nd rfl (Or.inr rfl) (pv 5)))))))
  (pss_one (ps_ret (pv 3)))))), ?_⟩
  try dsimp only [cxOf, L2.Cx.nox, L2.Cx.wish, L2.Cx.blk]
  rintro ds w R ⟨n, x, rows, bits, most, rfl, hn, hmost, hst, hbl, q⟩
  have hrl := hst.1
  generalize hA : smx rows = A at *
  refine sd_rf ?_
  repeat' walk_at "dl"
  refine xd_lcR1I (gw_name (by decide)) ?_
  repeat' walk_at "dl"
  refine ⟨_, now n A 0, rfl, by omega, by omega, fun i w' hi hs => ?_, ?_⟩
  · repeat' walk_at "dl"
    show Dat.int _ = Dat.int (if i = 0 then 1 else 0)
    by_cases h : i = 0
    · subst h; rfl
    · rw [if_neg h, decide_eq_false (by omega)]; rfl
  rw [Int.toNat_natCast, hbl]
  repeat' walk_at "dl"
  refine xd_lst ?_
  repeat' walk_at "dl"
  refine ⟨by decide, fun p hp => ?_⟩
  repeat' walk_at "dl"
  refine sd_forR1 ?_
  repeat' walk_at "dl"
  refine ⟨by omega, by omega, fun i ρ' w' => ∃ o4 o5 o6 o7 o8 : Option Dat, ρ' = [some (auD x rows bits), some (.int most), some (dI (tab n (now n A i))), some (.obj p), o4, o5, o6, o7, o8] ∧ w' = w.put p ((tab i (acc n A bits)).map .int), ⟨none, none, none, none, none, rfl, rfl⟩, ?_, ?_⟩
  · rintro i ρ' w' hi ⟨o4, o5, o6, o7, o8, rfl, rfl⟩
    have htn : (tab n (now n A i)).length = n := tab_length
    have hti : (tab i (acc n A bits)).length = i := tab_length
    repeat' walk_at "dl"
    refine xd_lcR1C (gw_name (by decide)) ?_
    repeat' walk_at "dl"
    rw [htn]
    refine ⟨n, fun k => decide (bits.getD k 0 = 1), now n A i, rfl, by omega, fun k w2 hk hs => ?_, fun L hL => ?_⟩
    · repeat' walk_at "dl"
      intro hb
      repeat' walk_at "dl"
      rw [tab_get n (now n A i) k hk]
    repeat' walk_at "dl"
    refine cd_sum (.lst _) ?_
    rw [hL]
    repeat' walk_at "dl"
    refine xd_lcTX (gw_name (by decide)) ?_
    repeat' walk_at "dl"
    refine ⟨by rw [List.length_map]; omega, fun _ => 0, fun k x w2 hx hs => ?_, fun p5 hp5 => ?_⟩
    · repeat' walk_at "dl"
    rw [Wd.put_put] at hp5 ⊢
    have eF : tab i (acc n A bits) ++ [sm (fun k => if decide (bits.getD k 0 = 1) = true then now n A i k else 0) n] = tab (i + 1) (acc n A bits) := tab_snoc i (acc n A bits)
    rw [eF] at hp5 ⊢
    rw [List.length_map, hbl]
    have htz : (tab n fun _ => 0).length = n := tab_length
    have hne : p ≠ p5 := Wd.new_ne hp5
    repeat' walk_at "dl"
    refine sd_to (fun ρ' w' => ∃ (fr : List Int) (o6 o7 o8 : Option Dat), ρ' = [some (auD x rows bits), some (.int most), some (dI (tab n (now n A i))), some (.obj p), some (.int i), some (.obj p5), o6, o7, o8] ∧ w' = (w.put p ((tab (i + 1) (acc n A bits)).map .int)).put p5 (fr.map .int) ∧ fr.length = n ∧ ∀ c, c < n → fr.getD c 0 = sm (fun k => now n A i k * A k c) n) ?_ ?_
    · refine sd_forR1 ?_
      repeat' walk_at "dl"
      rw [htn]
      refine ⟨by omega, by omega, fun k ρ' w' => ∃ (fr : List Int) (o6 o7 o8 : Option Dat), ρ' = [some (auD x rows bits), some (.int most), some (dI (tab n (now n A i))), some (.obj p), some (.int i), some (.obj p5), o6, o7, o8] ∧ w' = (w.put p ((tab (i + 1) (acc n A bits)).map .int)).put p5 (fr.map .int) ∧ fr.length = n ∧ ∀ c, c < n → fr.getD c 0 = sm (fun k => now n A i k * A k c) k, ⟨tab n fun _ => 0, _, _, _, rfl, rfl, htz, fun c hc => by rw [tab_at, if_pos hc]; rfl⟩, ?_, ?_⟩
      · rintro k ρ' w' hk ⟨fr, o6, o7, o8, rfl, rfl, hfl, hfv⟩
        have hk' : k < n := by omega
        repeat' walk_at "dl"
        refine sd_forT ?_
        repeat' walk_at "dl"
        refine ⟨fun j ρ' w' => ∃ (fr : List Int) (o7 : Option Dat), ρ' = [some (auD x rows bits), some (.int most), some (dI (tab n (now n A i))), some (.obj p), some (.int i), some (.obj p5), some (.int k), o7, o8] ∧ w' = (w.put p ((tab (i + 1) (acc n A bits)).map .int)).put p5 (fr.map .int) ∧ fr.length = n ∧ ∀ c, c < n → fr.getD c 0 = sm (fun k => now n A i k * A k c) k + now n A i k * cnt ((rows.getD k []).take j) c, ⟨fr, o7, rfl, rfl, hfl, fun c hc => by rw [hfv c hc, List.take_zero, cnt_nil, Int.mul_zero, Int.add_zero]⟩, ?_, ?_⟩
        · rintro j y ρ' w' hy ⟨fr, o7, rfl, rfl, hfl, hfv⟩
          have hj : j < (rows.getD k []).length := by
            have := (List.getElem?_eq_some_iff.mp hy).1
            rwa [List.length_map] at this
          rw [list_ix hj] at hy
          cases hy
          obtain ⟨t, ht, et⟩ := hst.at_ hk' hj
          rw [et]
          repeat' walk_at "dl"
          refine sd_augI ?_
          repeat' walk_at "dl"
          refine ⟨p5, fr, _, rfl, rfl, Wd.put_same, by omega, by omega, ?_⟩
          rw [Int.toNat_natCast]
          repeat' walk_at "dl"
          refine ⟨fr.set t _, _, rfl, by rw [Wd.put_put], by rw [List.length_set]; exact hfl, fun c hc => ?_⟩
          rw [getD_set c (by omega), take_snoc hj, et, cnt_snoc, hfv t ht, hfv c hc, tab_get n (now n A i) k hk']
          by_cases e : c = t
          · subst e
            rw [if_pos rfl, if_pos rfl, Int.mul_add, Int.mul_one, Int.add_assoc]
          · rw [if_neg e, if_neg (by omega), Int.add_zero]
        rintro ρ' w' ⟨fr, o7, rfl, rfl, hfl, hfv⟩
        refine ⟨fr, _, _, _, rfl, rfl, hfl, fun c hc => ?_⟩
        rw [hfv c hc, List.length_map, List.take_length, ← hA]
        rfl
      rintro ρ' w' ⟨fr, o6, o7, o8, rfl, rfl, hfl, hfv⟩
      exact ⟨fr, _, _, _, rfl, rfl, hfl, fun c hc => by rw [hfv c hc, Int.toNat_natCast]⟩
    rintro ρ' w' ⟨fr, o6, o7, o8, rfl, rfl, hfl, hfv⟩
    refine sd_frz (n := 5) rfl Wd.put_same ?_
    rw [Wd.del_put hp5]
    repeat' walk_at "dl"
    have e : fr = tab n (now n A (i + 1)) := Mat.list_ext (by rw [hfl, tab_length]) fun c hc => by
      rw [hfv c (by omega), tab_get n (now n A (i + 1)) c (by omega)]
      rfl
    rw [e]
    exact ⟨_, _, _, _, _, rfl, rfl⟩
  rintro ρ' w' ⟨o4, o5, o6, o7, o8, rfl, rfl⟩
  repeat' walk_at "dl"
  rw [show ((most : Int) + 1).toNat = most + 1 by omega]
  exact RF.new hp q
end
end K67
set_option Elab.async false
set_option linter.all false
set_option maxRecDepth 100000
set_option maxHeartbeats 4000000
namespace K67
open PySem PySem.Spec PyProof.Rows L2 DL
open Mat (tab tab_length tab_at trimP mulP subP Tr T sm mm ch ad dl now D ent tabM)
local macro_rules | `(tactic| walk_at "wd") => `(tactic| first
  | exact Wd.put_same
  | exact Wd.at2 (by assumption)
  | assumption
  | exact Wd.put_of (by assumption) (by assumption)
  | exact Wd.put_of (by assumption) (Wd.put_of (by assumption) (by assumption))
  | fail "no world")
local macro_rules | `(tactic| walk_at "sd") => `(tactic| first
  | with_reducible refine sd_seq ?_
  | with_reducible refine sd_set ?_
  | with_reducible refine sd_asg ?_
  | with_reducible refine gd_name ?_
  | with_reducible refine sd_ret ?_
  | with_reducible refine sd_drop ?_
  | with_reducible refine sd_if ?_
  | with_reducible refine sd_par ?_
  | with_reducible refine sd_next ?_
  | with_reducible refine sd_break ?_
  | with_reducible refine sd_aug rfl ?_
  | fail "no step")
local macro_rules | `(tactic| walk_at "ix") => `(tactic| (with_reducible show OD _ (rIx _) _ _ _ _) <;> first
  | refine od_ix (.tup _) rfl ?_
  | refine od_ix (.lst [_, _, _, _]) rfl ?_
  | (refine od_ix (ds := ?dsx) (.obj ?hx) ?hy ?_; (case hx => walk_at "wd"); (case hy => exact rfl))
  | (refine od_ixLast (.lst _) ?_ ?_; (focus omega))
  | (refine od_ixLast (ns := ?nsx) (.obj ?hx) ?ha ?_; (case hx => walk_at "wd"); (case ha => omega))
  | (refine od_ixI (.lst _) ?_ ?_ ?_; (focus omega); (focus omega))
  | (refine od_ixM (.lst _) ?_ ?_ ?_; (focus omega); (focus omega))
  | (refine od_ixI (ns := ?nsx) (.obj ?hx) ?ha ?hb ?_; (case hx => walk_at "wd"); (case ha => omega); (case hb => omega))
  | (refine od_ixM (rows := ?nsx) (.obj ?hx) ?ha ?hb ?_; (case hx => walk_at "wd"); (case ha => omega); (case hb => omega))
  | fail "no index")
local macro_rules | `(tactic| walk_at "dl") => `(tactic| first
  | walk_at "sd"
  | with_reducible refine xd_int ?_
  | with_reducible refine xd_bl ?_
  | with_reducible refine xd_non ?_
  | with_reducible refine xd_str ?_
  | with_reducible refine xd_ty ?_
  | with_reducible refine xd_op ?_
  | with_reducible refine xd_un ?_
  | with_reducible refine xd_if ?_
  | with_reducible refine xd_tup ?_
  | with_reducible refine xd_cb ?_
  | with_reducible refine xd_call ?_
  | with_reducible refine xd_bm ?_
  | with_reducible refine xd_bm0 ?_
  | (refine And.intro (ty_list (ds := ?dsx) (.obj ?hx)) ?_; (case hx => walk_at "wd"))
  | (refine md_appI (ns := ?nsx) ?hx ?ha ?_; (case hx => walk_at "wd"); (case ha => omega))
  | (refine md_appM (rows := ?nsx) ?hx ?ha ?_; (case hx => walk_at "wd"); (case ha => omega))
  | (refine md_popI (ns := ?nsx) ?hx ?ha ?_; (case hx => walk_at "wd"); (case ha => omega))
  | with_reducible refine ad_nil ?_
  | with_reducible refine ad_cons ?_
  | with_reducible refine td_test ?_
  | with_reducible refine td_B ?_
  | with_reducible refine td_and ?_
  | with_reducible refine td_or ?_
  | with_reducible refine td_not ?_
  | with_reducible refine xd_andV ?_
  | with_reducible refine xd_orV ?_
  | with_reducible refine xd_notV ?_
  | with_reducible refine xd_sliceF ?_
  | with_reducible refine pd_none ?_
  | with_reducible refine pd_some ?_
  | with_reducible refine od_add ?_
  | with_reducible refine od_sub ?_
  | (with_reducible refine od_fdivR ?_ ?_; (focus omega))
  | (with_reducible refine od_modN ?_ ?_; (focus omega))
  | (with_reducible refine od_mulX ?_ ?_; (focus (refine mulB (by assumption) (by assumption) (by omega))))
  | with_reducible refine od_mulX ?_ ?_
  | (with_reducible refine od_mul ?_ ?_; (focus (first | exact Or.inl (by omega) | exact Or.inr (by omega))))
  | with_reducible refine od_lt ?_
  | with_reducible refine od_le ?_
  | with_reducible refine od_gt ?_
  | with_reducible refine od_ge ?_
  | with_reducible refine od_eqI ?_
  | with_reducible refine od_neI ?_
  | (refine od_eqL (.lst _) (.lst _) ?_; (focus skip))
  | (refine od_neL (.lst _) (.lst _) ?_; (focus skip))
  | refine od_isL ?_
  | with_reducible refine ud_neg ?_
  | with_reducible refine id_I ?_
  | refine cd_isi (b := true) (.int _) (by with_unfolding_all rfl) ?_
  | refine cd_isi (b := false) (.int _) (by with_unfolding_all rfl) ?_
  | refine cd_isi (b := true) (.lst _) (by with_unfolding_all rfl) ?_
  | with_reducible refine cd_max2 ?_
  | with_reducible refine cd_abs ?_
  | with_reducible refine cd_int1 ?_
  | with_reducible refine cd_intB ?_
  | refine cd_lenI (.lst _) ?_
  | refine cd_lenM (.lst _) ?_
  | (refine cd_lenI (ns := ?nsx) (.obj ?hx) ?_; (case hx => walk_at "wd"))
  | (refine cd_lenM (rows := ?nsx) (.obj ?hx) ?_; (case hx => walk_at "wd"))
  | refine cd_listF (.lst _) ?_
  | (refine cd_listF (ds := ?dsx) (.obj ?hx) ?_; (case hx => walk_at "wd"))
  | (refine od_catI (.lst _) (.lst _) ?_ ?_; (focus (first | omega | (simp only [List.length_append, List.length_map, tab_length]; omega))))
  | walk_at "ix"
  | with_reducible refine xd_var rfl ?_
  | with_reducible refine And.intro rfl ?_
  | with_reducible refine ⟨_, rfl, ?_⟩
  | with_reducible refine ⟨_, _, rfl, ?_⟩
  | (with_reducible refine And.intro (fun hb => ?_) (fun hb => ?_) <;> (try (exact absurd hb (by decide))) <;> (try simp only [decide_eq_true_eq, decide_eq_false_iff_not, Bool.not_eq_true', Bool.not_eq_false', Bool.true_eq_false, Bool.false_eq_true, Bool.not_eq_true, Bool.not_eq_false, Int.not_lt, Int.not_le] at hb))
  | with_reducible exact rfl
  | fail "no step")
local macro_rules | `(tactic| walk_at "ix") => `(tactic| (with_reducible show OD _ (rIx _) _ (.int (Nat.cast _)) _ _) <;> first
  | (refine od_ixIN (.lst _) ?_ ?_; (focus omega))
  | (refine od_ixMN (.lst _) ?_ ?_; (focus omega))
  | (refine od_ixIN (ns := ?nsx) (.obj ?hx) ?ha ?_; (case hx => walk_at "wd"); (case ha => omega))
  | (refine od_ixMN (rows := ?nsx) (.obj ?hx) ?ha ?_; (case hx => walk_at "wd"); (case ha => omega))
  | fail "no index")
local macro_rules | `(tactic| walk_at "dl") => `(tactic| first
  | (refine od_ixO (by assumption) ?_; (focus skip))
  | (refine od_ixT ?_ ?_; (focus omega))
  | refine cd_lenT ?_
  | refine cd_lenTI ?_
  | refine cd_lenO ?_
  | with_reducible refine xd_chain ?_
  | fail "no step")
local macro_rules | `(tactic| walk_at "ix") => `(tactic| (with_reducible show OD _ (rIx _) _ (.int (Nat.cast _)) _ _) <;> first
  | (refine od_ixIN (.tup _) ?_ ?_; (focus omega))
  | (refine od_ixT ?_ ?_; (focus omega))
  | fail "no index")
theorem sm_more {f : Nat → Int} {m : Nat} (h : ∀ k, m ≤ k → f k = 0) (j : Nat) : sm f (m + j) = sm f m := by
  induction j with
  | zero => rfl
  | succ j ih =>
    show sm f (m + j) + f (m + j) = _
    rw [ih, h _ (by omega), Int.add_zero]
theorem sm_to {f : Nat → Int} {m N : Nat} (h : ∀ k, m ≤ k → f k = 0) (hN : m ≤ N) : sm f m = sm f N := by
  rw [show N = m + (N - m) by omega, sm_more h]
def tol (n : Nat) (A : Nat → Nat → Int) : List Int := trimP (tab (n + 1) (ch n A))
theorem tol_at {n : Nat} {A : Nat → Nat → Int} (k : Nat) : (tol n A).getD k 0 = ch n A k := by
  have h1 : T (tol n A) = ch n A := by
    unfold tol
    rw [Mat.trimP_T]
    exact Mat.T_tab fun k hk => Mat.ch_dg k (by omega)
  exact congrFun h1 k
theorem tol_len {n : Nat} {A : Nat → Nat → Int} : 1 ≤ (tol n A).length ∧ (tol n A).length ≤ n + 1 := by
  refine ⟨Nat.pos_of_ne_zero fun z => ?_, ?_⟩
  · have := tol_at (n := n) (A := A) 0
    rw [Mat.ch_zero, Mat.getD_over (by omega)] at this
    exact absurd this (by decide)
  · have := Mat.trimP_le (l := tab (n + 1) (ch n A))
    have e : (tab (n + 1) (ch n A)).length = n + 1 := tab_length
    rw [e] at this
    exact this
theorem tol_value {n : Nat} {A : Nat → Nat → Int} (t : Int) : sm (fun k => (tol n A).getD k 0 * t ^ k) (tol n A).length = D n fun p c => dl p c - t * A p c := by
  rw [sm_to (N := n + 1) (fun k hk => by rw [Mat.getD_over hk, Int.zero_mul]) tol_len.2, ← Mat.ch_value t (Nat.le_refl n)]
  exact Mat.sm_congr fun k _ => by rw [tol_at]
theorem tol_ways {n : Nat} {A : Nat → Nat → Int} {bits : List Int} (hn : 0 < n) {N : Nat} (hN : n ≤ N) : sm (fun k => (tol n A).getD k 0 * acc n A bits (N - k)) (tol n A).length = 0 := by
  rw [sm_to (N := N + 1) (fun k hk => by rw [Mat.getD_over hk, Int.zero_mul]) (by have := tol_len (n := n) (A := A); omega)]
  have e : sm (fun k => (tol n A).getD k 0 * acc n A bits (N - k)) (N + 1) = sm (fun k => sm (fun c => if decide (bits.getD c 0 = 1) = true then ch n A k * now n A (N - k) c else 0) n) (N + 1) := Mat.sm_congr fun k _ => by
    rw [tol_at]
    unfold acc
    rw [← Mat.sm_mul]
    exact Mat.sm_congr fun c _ => by
      split
      · rfl
      · exact Int.mul_zero _
  rw [e, Mat.sm_swap]
  refine Mat.sm_zero fun c hc => ?_
  by_cases h : decide (bits.getD c 0 = 1) = true
  · rw [Mat.sm_congr fun k _ => if_pos h]
    exact Mat.ch_ways hn hN hc
  · rw [Mat.sm_congr fun k _ => if_neg h]
    exact Mat.sm_zero fun _ _ => rfl
/-- a row of the matrix whose determinant is asked -/
def crow (n : Nat) (A : Nat → Nat → Int) (t : Nat) (k : Nat) : List Int := tab n fun j => dl k j - t * A k j
section
variable {P : Program} {wo : World} {K : PySem.W.Frag} {mg : Str → Option Value} {base : Heap}
def fs_cfits : FS := fun ds w Q => ∃ (n : Nat) (x : Str) (rows : List (List Int)) (bits : List Int), ds = [auD x rows bits] ∧ 0 < n ∧ n ≤ 9 ∧ Sts rows n ∧ bits.length = n ∧ Q (.bl true) w
theorem ok_law_charpoly_fits (G : Bltn mg) (C_reversed_charpoly : Cal P wo K mg base 42 "reversed_charpoly" ["steps"] fs_char) (C_law_is_poly : Cal P wo K mg base 42 "_law_is_poly" ["thing"] fs_ispoly) (C_law_value : Cal P wo K mg base 41 "_law_value" ["row", "place"] fs_value)
    (C_law_determinant : Cal P wo K mg base 41 "_law_determinant" ["matrix"] fs_det) (C_law_accepted_counts : Cal P wo K mg base 41 "_law_accepted_counts" ["auto", "most"] fs_counts)
    {f : Addr} {fd : FuncData} (F : Fun K "_law_charpoly_fits" "_law_charpoly_fits" s_law_charpoly_fits f fd) : FnOk P wo K mg base CX0 43 f fd ["auto"] (spOf K fs_cfits) := by
  have nd := sc_law_charpoly_fits.nd
  refine fn_ok F sc_law_charpoly_fits (fun ds w Q h => ?_) fun cdv A outer s H E hr => ?_
  · obtain ⟨_, _, _, _, rfl, _⟩ := h
    rfl
  refine ⟨_, (pss_cons (ps_set (i := 1) nd rfl (Or.inr rfl) (pe_ix (r := rIx K) ix_seq (pv 0) pe_int (fun _ _ => rfl)))
  (pss_cons (ps_set (i := 2) nd rfl (Or.inl rfl) (pe_callB (r := rLenK K) call_len_seq (by rfl) G.len_ PySem.boot_len (pa_cons (pv 1) pa_nil)))
  (pss_cons (ps_set (i := 3) nd rfl (Or.inr rfl) (pe_calK C_reversed_charpoly rfl rfl rfl rfl rfl (hr.mono (by decide)) (by rfl) (pa_cons (pv 1) pa_nil)))
  (pss_cons (ps_if (PW.pt (pw_or (pt_not (pt_val (pe_calK C_law_is_poly rfl rfl rfl rfl rfl (hr.mono (by decide)) (by rfl) (pa_cons (pv 3) pa_nil)))) (pw_or1 (pt_not (pt_chain op_le op_le pe_int (pe_callB (r := rLenK K) call_len_seq (by rfl) G.len_ PySem.boot_len (pa_cons (pv 3) pa_nil)) (pe_op op_add (pv 2) pe_int)))))) (pss_one (ps_ret pe_bl)) pss_nil)
  (pss_cons (ps_for PassesOwn.never rfl (pi_range1 (by rfl) G.range_ (pa_cons (pe_op op_add (pv 2) pe_int) pa_nil)) (pg_name (i := 4) nd rfl (Or.inr rfl)) (pss_cons (ps_set (i := 5) nd rfl (Or.inl rfl) (pe_lst pa_nil))
  (pss_cons (ps_for PassesOwn.never rfl (pi_range1 (by rfl) G.range_ (pa_cons (pv 2) pa_nil)) (pg_name (i := 6) nd rfl (Or.inr rfl)) (pss_one (ps_expr (pe_bm PySem.F.plainAttrs_list PySem.F.slot_list_append PySem.F.type_list_append mt_append (pv 5) (pa_cons (pe_lc (own := [("j", 9)]) (g := gName 9) (tt := tYes) rfl nd (pi_range1 (by rfl) G.range_ (pa_cons (pv 2) pa_nil)) (blkOk_by (own := [("j", 9)]) (N := n_law_charpoly_fits) (sc := (defScope s_law_charpoly_fits)) (by decide +kernel)) (fun _ _ _ _ _ => (pg_name (i := 9) nd rfl (Or.inr rfl))) (fun _ _ _ _ _ => pts_nil) (fun _ _ _ _ _ => (pe_op op_sub (pe_callTy call_int1 (by rfl) G.int_ (by decide +kernel) (pa_cons (pe_cmpR op_eq (pv 6) (pv 9) (nomark _)) pa_nil)) (pe_op op_mul (pv 4) (pe_callB (r := rLenK K) call_len_seq (by rfl) G.len_ PySem.boot_len (pa_cons (pe_lc (own := [("to", 10)]) (g := gName 10)  rfl nd (pi_tupK (K := K) rfl (pe_ix (r := rIx K) ix_seq (pv 1) (pv 6) (fun _ _ => rfl))) (blkOk_by (own := [("to", 10)]) (N := n_law_charpoly_fits) (sc := (relS _ (defScope s_law_charpoly_fits))) (by decide +kernel)) (fun _ _ _ _ _ => (pg_name (i := 10) nd rfl (Or.inl rfl))) (fun _ _ _ _ _ => pts_one (pt_cmpR op_eq (pv 10) (pv 9) (nomark _))) (fun _ _ _ _ _ => (pv 10))) pa_nil)))))) pa_nil)))))
  (pss_one (ps_if (pt_cmpR op_ne (pe_calK C_law_value rfl rfl rfl rfl rfl (hr.mono (by decide)) (by rfl) (pa_cons (pv 3) (pa_cons (pv 4) pa_nil))) (pe_calK C_law_determinant rfl rfl rfl rfl rfl (hr.mono (by decide)) (by rfl) (pa_cons (pv 5) pa_nil)) (nomark _)) (pss_one (ps_ret pe_bl)) pss_nil)))))
  (pss_cons (ps_set (i := 7) nd rfl (Or.inr rfl) (pe_calK C_law_accepted_counts rfl rfl rfl rfl rfl (hr.mono (by decide)) (by rfl) (pa_cons (pv 0) (pa_cons (pe_op op_add (pe_op op_mul pe_int (pv 2)) pe_int) pa_nil))))
  (pss_cons (ps_for PassesOwn.never rfl (pi_range2 (by rfl) G.range_ (pa_cons (pv 2) (pa_cons (pe_op op_add (pe_op op_mul pe_int (pv 2)) pe_int) pa_nil))) (pg_name (i := 8) nd rfl (Or.inr rfl)) (pss_one (ps_if (pt_cmpR op_ne (pe_callB (r := rSum K) (cr_sum rfl) (by rfl) G.sum_ (by decide +kernel) (pa_cons (pe_lc (own := [("k", 6)]) (g := gName 6) (tt := tYes) rfl nd (pi_range1 (by rfl) G.range_ (pa_cons (pe_callB (r := rLenK K) call_len_seq (by rfl) G.len_ PySem.boot_len (pa_cons (pv 3) pa_nil)) pa_nil)) (blkOk_by (own := [("k", 6)]) (N := n_law_charpoly_fits) (sc := (defScope s_law_charpoly_fits)) (by decide +kernel)) (fun _ _ _ _ _ => (pg_name (i := 6) nd rfl (Or.inl rfl))) (fun _ _ _ _ _ => pts_nil) (fun _ _ _ _ _ => (pe_op op_mul (pe_ix (r := rIx K) ix_seq (pv 3) (pv 6) (fun _ _ => rfl)) (pe_ix (r := rIx K) ix_seq (pv 7) (pe_op op_sub (pv 8) (pv 6)) (fun _ _ => rfl))))) pa_nil)) pe_int (nomark _)) (pss_one (ps_ret pe_bl)) pss_nil)))
  (pss_one (ps_ret pe_bl))))))))), ?_⟩
  try dsimp only [cxOf, L2.Cx.nox, L2.Cx.wish, L2.Cx.blk]
  rintro ds w R ⟨n, x, rows, bits, rfl, hn0, hn, hst, hbl, q⟩
  have hrl := hst.1
  repeat' walk_at "dl"
  refine ⟨n, rows, rfl, by omega, hst, ?_⟩
  have htl := tol_len (n := n) (A := smx rows)
  have htr : Tr (tol n (smx rows)) := Mat.trimP_Tr
  have hTo : trimP (tab (n + 1) (ch n (smx rows))) = tol n (smx rows) := rfl
  rw [hTo]
  repeat' walk_at "dl"
  refine ⟨_, rfl, by omega, htr, ?_⟩
  repeat' walk_at "dl"
  · exfalso; omega
  rotate_left
  · exfalso; omega
  rw [hrl]
  generalize hA : smx rows = A at *
  have hAs : ∀ i j, 0 ≤ A i j ∧ A i j ≤ 4 := fun i j => by rw [← hA]; exact cnt_small hst i j
  generalize htl2 : tol n A = told at *
  refine sd_to (fun ρ' w' => ∃ o4 o5 o6 o7 o8 o9 o10 : Option Dat, ρ' = [some (auD x rows bits), some (tM rows), some (.int n), some (dI told), o4, o5, o6, o7, o8, o9, o10] ∧ w' = w) ?_ ?_
  · refine sd_forR1 ?_
    repeat' walk_at "dl"
    refine ⟨by omega, by omega, fun t ρ' w' => ∃ o4 o5 o6 o7 o8 o9 o10 : Option Dat, ρ' = [some (auD x rows bits), some (tM rows), some (.int n), some (dI told), o4, o5, o6, o7, o8, o9, o10] ∧ w' = w, ⟨none, none, none, none, none, none, none, rfl, rfl⟩, ?_, fun _ _ h => h⟩
    rintro t ρ' w' ht ⟨o4, o5, o6, o7, o8, o9, o10, rfl, rfl⟩
    repeat' walk_at "dl"
    refine xd_lst ?_
    repeat' walk_at "dl"
    refine ⟨by decide, fun p hp => ?_⟩
    repeat' walk_at "dl"
    refine sd_to (fun ρ' w2 => ∃ o6 o7 o8 o9 o10 : Option Dat, ρ' = [some (auD x rows bits), some (tM rows), some (.int n), some (dI told), some (.int t), some (.obj p), o6, o7, o8, o9, o10] ∧ w2 = w'.put p (dM (tabM n (crow n A t)))) ?_ ?_
    · refine sd_forR1 ?_
      repeat' walk_at "dl"
      refine ⟨by omega, by omega, fun k ρ' w2 => ∃ o6 o7 o8 o9 o10 : Option Dat, ρ' = [some (auD x rows bits), some (tM rows), some (.int n), some (dI told), some (.int t), some (.obj p), o6, o7, o8, o9, o10] ∧ w2 = w'.put p (dM (tabM k (crow n A t))), ⟨_, _, _, _, _, rfl, rfl⟩, ?_, fun ρ' w2 h => by rw [Int.toNat_natCast] at h; exact h⟩
      rintro k ρ' w2 hk ⟨o6, o7, o8, o9, o10, rfl, rfl⟩
      have hk' : k < n := by omega
      have hml : (tabM k (crow n A t)).length = k := Mat.tabM_length
      repeat' walk_at "dl"
      refine xd_lcR1I (gw_name (by decide)) ?_
      repeat' walk_at "dl"
      refine ⟨_, fun j => dl k j - t * A k j, rfl, by omega, by omega, fun j w3 hj hs => ?_, ?_⟩
      · have hj' : j < n := by omega
        repeat' walk_at "dl"
        refine xd_lcTC (gw_name (by decide)) ?_
        repeat' walk_at "dl"
        have hrk : (rows.getD k []).length ≤ 4 := by
          rw [List.getD_eq_getElem?_getD, List.getElem?_eq_getElem (by omega)]
          exact (hst.2 _ (List.getElem_mem _)).1
        refine ⟨rows.getD k [], fun x => decide (x = (j : Int)), rfl, by omega, fun y w4 hy hs4 => ?_, ?_⟩
        · repeat' walk_at "dl"
          intro hb
          repeat' walk_at "dl"
        repeat' walk_at "dl"
        refine od_mul (.inl (by omega)) ?_
        repeat' walk_at "dl"
        have e1 : (if decide ((k : Int) = (j : Int)) = true then (1 : Int) else 0) = dl k j := by
          unfold Mat.dl
          by_cases h : j = k
          · rw [if_pos h, if_pos (by simp [h])]
          · rw [if_neg h, if_neg (by simp; omega)]
        have e2 : (((rows.getD k []).filter fun x => decide (x = (j : Int))).length : Int) = A k j := by
          rw [← hA]; rfl
        show Dat.int _ = Dat.int (dl k j - t * A k j)
        rw [e1, e2]
      rw [Int.toNat_natCast]
      repeat' walk_at "dl"
      refine ⟨_, _, _, _, _, rfl, ?_⟩
      rw [Wd.put_put, show (tab n fun j => dl k j - t * A k j) = crow n A t k from rfl, Mat.tabM_snoc]
    rintro ρ' w2 ⟨o6, o7, o8, o9, o10, rfl, rfl⟩
    refine sd_frz (n := 5) rfl Wd.put_same ?_
    rw [Wd.del_put hp]
    repeat' walk_at "dl"
    refine ⟨told, t, rfl, by omega, by omega, ?_⟩
    repeat' walk_at "dl"
    have hml : (tabM n (crow n A t)).length = n := Mat.tabM_length
    have hent : ∀ p, p < n → ∀ c, c < n → ent (tabM n (crow n A t)) p c = dl p c - t * A p c := fun p hp c hc => by
      show ((tabM n (crow n A t)).getD p []).getD c 0 = _
      rw [Mat.tabM_at hp]
      exact tab_get n (fun j => dl p j - t * A p j) c hc
    have hD : D n (ent (tabM n (crow n A t))) = sm (fun k => told.getD k 0 * (t : Int) ^ k) told.length := by
      rw [← htl2, tol_value]
      exact Mat.D_congr hent
    refine ⟨6, tabM n (crow n A t), rfl, by omega, fun j hj => ?_, fun p hp c hc => ?_, by omega, ?_⟩
    · rw [hml] at hj ⊢
      rw [Mat.tabM_at hj]
      exact tab_length
    · rw [hml] at hp hc
      rw [hent p hp c hc]
      have h1 : 0 ≤ dl p c ∧ dl p c ≤ 1 := by
        unfold Mat.dl
        split <;> omega
      have h2 := hAs p c
      have h3 : (t : Int) * A p c ≤ 9 * A p c := Int.mul_le_mul_of_nonneg_right (by omega) h2.1
      have h4 : 0 ≤ (t : Int) * A p c := Int.mul_nonneg (by omega) h2.1
      show (dl p c - t * A p c).natAbs < 2 ^ 6
      have : (2 : Nat) ^ 6 = 64 := by decide
      omega
    rw [hml, hD]
    repeat' walk_at "dl"
    · exact absurd trivial ‹¬ True›
    · exact ⟨_, _, _, _, _, _, _, rfl, rfl⟩
  rintro ρ' w' ⟨o4, o5, o6, o7, o8, o9, o10, rfl, rfl⟩
  repeat' walk_at "dl"
  refine od_mul (.inl (by omega)) ?_
  repeat' walk_at "dl"
  rw [show (2 * (n : Int) + 2) = ((2 * n + 2 : Nat) : Int) by omega]
  refine ⟨n, x, rows, bits, 2 * n + 2, rfl, by omega, by omega, hst, hbl, ?_⟩
  rw [hA]
  have hcl : (tab (2 * n + 2 + 1) (acc n A bits)).length = 2 * n + 3 := tab_length
  repeat' walk_at "dl"
  refine sd_forR2 ?_
  repeat' walk_at "dl"
  refine od_mul (.inl (by omega)) ?_
  repeat' walk_at "dl"
  refine ⟨⟨by omega, by omega, by omega, by omega⟩, fun i ρ' w2 => ∃ o4 o5 o6 o8 o9 o10 : Option Dat, ρ' = [some (auD x rows bits), some (tM rows), some (.int n), some (dI told), o4, o5, o6, some (dI (tab (2 * n + 2 + 1) (acc n A bits))), o8, o9, o10] ∧ w2 = w', ⟨_, _, _, _, _, _, rfl, rfl⟩, ?_, ?_⟩
  · rintro i ρ' w2 hi ⟨o4, o5, o6, o8, o9, o10, rfl, rfl⟩
    repeat' walk_at "dl"
    refine xd_lcR1I (gw_name (by decide)) ?_
    repeat' walk_at "dl"
    refine ⟨_, fun k => told.getD k 0 * acc n A bits (n + i - k), rfl, by omega, by omega, fun k w3 hk hs => ?_, ?_⟩
    · repeat' walk_at "dl"
      rw [show ((n : Int) + (i : Int) - (k : Int)).toNat = n + i - k by omega, tab_get _ (acc n A bits) (n + i - k) (by omega)]
      have hsm := acc_small (bits := bits) hn0 hst (m := n + i - k) (by omega)
      rw [hA] at hsm
      refine od_mul (.inr hsm) ?_
      exact ⟨rfl, rfl⟩
    rw [Int.toNat_natCast]
    refine ad_nil (cd_sumT (.lst _) ?_)
    have e : sm (fun k => told.getD k 0 * acc n A bits (n + i - k)) told.length = 0 := by
      rw [← htl2]
      exact tol_ways hn0 (by omega)
    rw [e]
    repeat' walk_at "dl"
    exact ⟨_, _, _, _, _, _, rfl, rfl⟩
  rintro ρ' w2 ⟨o4, o5, o6, o8, o9, o10, rfl, rfl⟩
  repeat' walk_at "dl"
  exact q
end
end K67
set_option Elab.async false
set_option linter.all false
set_option maxRecDepth 100000
set_option maxHeartbeats 4000000
namespace K67
open PySem PySem.Spec PyProof.Rows L2 DL
open Mat (tab tab_length tab_at Tr)
local macro_rules | `(tactic| walk_at "wd") => `(tactic| first
  | exact Wd.put_same
  | exact Wd.at2 (by assumption)
  | assumption
  | exact Wd.put_of (by assumption) (by assumption)
  | exact Wd.put_of (by assumption) (Wd.put_of (by assumption) (by assumption))
  | fail "no world")
local macro_rules | `(tactic| walk_at "sd") => `(tactic| first
  | with_reducible refine sd_seq ?_
  | with_reducible refine sd_set ?_
  | with_reducible refine sd_asg ?_
  | with_reducible refine gd_name ?_
  | with_reducible refine sd_ret ?_
  | with_reducible refine sd_drop ?_
  | with_reducible refine sd_if ?_
  | with_reducible refine sd_par ?_
  | with_reducible refine sd_next ?_
  | with_reducible refine sd_break ?_
  | with_reducible refine sd_aug rfl ?_
  | fail "no step")
local macro_rules | `(tactic| walk_at "ix") => `(tactic| (with_reducible show OD _ (rIx _) _ _ _ _) <;> first
  | refine od_ix (.tup _) rfl ?_
  | refine od_ix (.lst [_, _, _, _]) rfl ?_
  | (refine od_ix (ds := ?dsx) (d := ?ddx) (.obj ?hx) ?hy ?_; (case hx => walk_at "wd"); (case hy => exact rfl))
  | (refine od_ixLast (.lst _) ?_ ?_; (focus omega))
  | (refine od_ixLast (ns := ?nsx) (.obj ?hx) ?ha ?_; (case hx => walk_at "wd"); (case ha => omega))
  | (refine od_ixI (.lst _) ?_ ?_ ?_; (focus omega); (focus omega))
  | (refine od_ixM (.lst _) ?_ ?_ ?_; (focus omega); (focus omega))
  | (refine od_ixI (ns := ?nsx) (.obj ?hx) ?ha ?hb ?_; (case hx => walk_at "wd"); (case ha => omega); (case hb => omega))
  | (refine od_ixM (rows := ?nsx) (.obj ?hx) ?ha ?hb ?_; (case hx => walk_at "wd"); (case ha => omega); (case hb => omega))
  | fail "no index")
local macro_rules | `(tactic| walk_at "dl") => `(tactic| first
  | walk_at "sd"
  | with_reducible refine xd_int ?_
  | with_reducible refine xd_bl ?_
  | with_reducible refine xd_non ?_
  | with_reducible refine xd_str ?_
  | with_reducible refine xd_ty ?_
  | with_reducible refine xd_op ?_
  | with_reducible refine xd_un ?_
  | with_reducible refine xd_if ?_
  | with_reducible refine xd_tup ?_
  | with_reducible refine xd_cb ?_
  | with_reducible refine xd_call ?_
  | with_reducible refine xd_bm ?_
  | with_reducible refine xd_bm0 ?_
  | (refine And.intro (ty_list (ds := ?dsx) (.obj ?hx)) ?_; (case hx => walk_at "wd"))
  | (refine md_appI (ns := ?nsx) ?hx ?ha ?_; (case hx => walk_at "wd"); (case ha => omega))
  | (refine md_appM (rows := ?nsx) ?hx ?ha ?_; (case hx => walk_at "wd"); (case ha => omega))
  | (refine md_popI (ns := ?nsx) ?hx ?ha ?_; (case hx => walk_at "wd"); (case ha => omega))
  | with_reducible refine ad_nil ?_
  | with_reducible refine ad_cons ?_
  | with_reducible refine td_test ?_
  | with_reducible refine td_B ?_
  | with_reducible refine td_and ?_
  | with_reducible refine td_or ?_
  | with_reducible refine td_not ?_
  | with_reducible refine xd_andV ?_
  | with_reducible refine xd_orV ?_
  | with_reducible refine xd_notV ?_
  | with_reducible refine xd_sliceF ?_
  | with_reducible refine pd_none ?_
  | with_reducible refine pd_some ?_
  | with_reducible refine od_add ?_
  | with_reducible refine od_sub ?_
  | (with_reducible refine od_fdivR ?_ ?_; (focus omega))
  | (with_reducible refine od_modN ?_ ?_; (focus omega))
  | (with_reducible refine od_mulX ?_ ?_; (focus (refine mulB (by assumption) (by assumption) (by omega))))
  | with_reducible refine od_mulX ?_ ?_
  | (with_reducible refine od_mul ?_ ?_; (focus (first | exact Or.inl (by omega) | exact Or.inr (by omega))))
  | with_reducible refine od_lt ?_
  | with_reducible refine od_le ?_
  | with_reducible refine od_gt ?_
  | with_reducible refine od_ge ?_
  | with_reducible refine od_eqI ?_
  | with_reducible refine od_neI ?_
  | (refine od_eqL (.lst _) (.lst _) ?_; (focus skip))
  | (refine od_neL (.lst _) (.lst _) ?_; (focus skip))
  | refine od_isL ?_
  | with_reducible refine ud_neg ?_
  | with_reducible refine id_I ?_
  | refine cd_isi (b := true) (.int _) (by with_unfolding_all rfl) ?_
  | refine cd_isi (b := false) (.int _) (by with_unfolding_all rfl) ?_
  | refine cd_isi (b := true) (.lst _) (by with_unfolding_all rfl) ?_
  | with_reducible refine cd_max2 ?_
  | with_reducible refine cd_abs ?_
  | with_reducible refine cd_int1 ?_
  | with_reducible refine cd_intB ?_
  | refine cd_lenI (.lst _) ?_
  | refine cd_lenM (.lst _) ?_
  | (refine cd_lenI (ns := ?nsx) (.obj ?hx) ?_; (case hx => walk_at "wd"))
  | (refine cd_lenM (rows := ?nsx) (.obj ?hx) ?_; (case hx => walk_at "wd"))
  | refine cd_listF (.lst _) ?_
  | (refine cd_listF (ds := ?dsx) (.obj ?hx) ?_; (case hx => walk_at "wd"))
  | (refine od_catI (.lst _) (.lst _) ?_ ?_; (focus (first | omega | (simp only [List.length_append, List.length_map, tab_length]; omega))))
  | walk_at "ix"
  | with_reducible refine xd_var rfl ?_
  | with_reducible refine And.intro rfl ?_
  | with_reducible refine ⟨_, rfl, ?_⟩
  | with_reducible refine ⟨_, _, rfl, ?_⟩
  | (with_reducible refine And.intro (fun hb => ?_) (fun hb => ?_) <;> (try (exact absurd hb (by decide))) <;> (try simp only [decide_eq_true_eq, decide_eq_false_iff_not, Bool.not_eq_true', Bool.not_eq_false', Bool.true_eq_false, Bool.false_eq_true, Bool.not_eq_true, Bool.not_eq_false, Int.not_lt, Int.not_le] at hb))
  | with_reducible exact rfl
  | fail "no step")
local macro_rules | `(tactic| walk_at "ix") => `(tactic| (with_reducible show OD _ (rIx _) _ (.int (Nat.cast _)) _ _) <;> first
  | (refine od_ixIN (.lst _) ?_ ?_; (focus omega))
  | (refine od_ixMN (.lst _) ?_ ?_; (focus omega))
  | (refine od_ixIN (ns := ?nsx) (.obj ?hx) ?ha ?_; (case hx => walk_at "wd"); (case ha => omega))
  | (refine od_ixMN (rows := ?nsx) (.obj ?hx) ?ha ?_; (case hx => walk_at "wd"); (case ha => omega))
  | fail "no index")
local macro_rules | `(tactic| walk_at "dl") => `(tactic| first
  | (refine od_ixO (by assumption) ?_; (focus skip))
  | (refine od_ixT ?_ ?_; (focus omega))
  | refine cd_lenT ?_
  | refine cd_lenTI ?_
  | refine cd_lenO ?_
  | with_reducible refine xd_chain ?_
  | fail "no step")
local macro_rules | `(tactic| walk_at "ix") => `(tactic| (with_reducible show OD _ (rIx _) _ (.int (Nat.cast _)) _ _) <;> first
  | (refine od_ixIN (.tup _) ?_ ?_; (focus omega))
  | (refine od_ixT ?_ ?_; (focus omega))
  | fail "no index")
/-- the state of the draws -/
def Sd (pd : Addr) (w : Wd) : Prop := ∃ (cs : List Int) (i e h : Int), 0 ≤ i ∧ w pd = some [dI cs, .int i, .int e, .int h, .int 0]
/-- nothing but the state changed -/
def Only (pd : Addr) (w w' : Wd) : Prop := Sd pd w' ∧ ∀ a, a ≠ pd → w' a = w a
theorem Only.put {pd : Addr} {w w' : Wd} {cs : List Int} {i e h : Int} (hi : 0 ≤ i) (ew : w' = w.put pd [dI cs, .int i, .int e, .int h, .int 0]) : Only pd w w' :=
  ⟨⟨cs, i, e, h, hi, by rw [ew, Wd.put_same]⟩, fun a ha => by rw [ew, Wd.put_ne ha]⟩
theorem Only.trans {pd : Addr} {w w1 w2 : Wd} (a : Only pd w w1) (b : Only pd w1 w2) : Only pd w w2 := ⟨b.1, fun x hx => by rw [b.2 x hx, a.2 x hx]⟩
section
variable {P : Program} {wo : World} {K : PySem.W.Frag} {mg : Str → Option Value} {base : Heap}
def fs_draw : FS := fun ds w Q => ∃ (pd : Addr) (many : Int), ds = [.obj pd, .int many] ∧ 0 < many ∧ Sd pd w ∧ ∀ (r : Int) (w' : Wd), 0 ≤ r → r < many → Only pd w w' → Q (.int r) w'
theorem ok_law_draw (G : Bltn mg) (hS : base.NoSeer) (hT : P.given.tree = none) {f : Addr} {fd : FuncData} (F : Fun K "_law_draw" "_law_draw" s_law_draw f fd) : FnOk P wo K mg base CX0 41 f fd ["d", "many"] (spOf K fs_draw) := by
  have nd := sc_law_draw.nd
  refine fn_ok F sc_law_draw (fun ds w Q h => ?_) fun cdv A outer s H E hr => ?_
  · obtain ⟨_, _, rfl, _⟩ := h
    rfl
  have hp := plain_of (N := n_law_draw) (wo := wo) (K := K) (mg := mg) (outer := outer) (H := H) (E := E) hS hT hr (by decide) rfl rfl
  refine ⟨_, (pss_cons (ps_if (pt_cmpR op_gt (pe_ix (r := rIx K) ix_seq (pv 0) pe_int (fun _ _ => rfl)) pe_int (nomark _)) (pss_cons (ps_set (i := 2) nd rfl (Or.inl rfl) (pe_ix (r := rIx K) ix_seq (pv 0) pe_int (fun _ _ => rfl)))
  (pss_cons (ps_asg (pe_op (op_fdivR hp) (pv 2) (pv 1)) (pg_sub (pv 0) pe_int set_list))
  (pss_one (ps_ret (pe_op op_modN (pe_callTy call_int1 (by rfl) G.int_ (by decide +kernel) (pa_cons (pv 2) pa_nil)) (pv 1)))))) pss_nil)
  (pss_cons (ps_set (i := 3) nd rfl (Or.inl rfl) pe_int)
  (pss_cons (ps_if (pt_cmpR op_lt (pe_ix (r := rIx K) ix_seq (pv 0) pe_int (fun _ _ => rfl)) (pe_callB (r := rLenK K) call_len_seq (by rfl) G.len_ PySem.boot_len (pa_cons (pe_ix (r := rIx K) ix_seq (pv 0) pe_int (fun _ _ => rfl)) pa_nil)) (nomark _)) (pss_cons (ps_set (i := 4) nd rfl (Or.inl rfl) (pe_ix (r := rIx K) ix_seq (pe_ix (r := rIx K) ix_seq (pv 0) pe_int (fun _ _ => rfl)) (pe_ix (r := rIx K) ix_seq (pv 0) pe_int (fun _ _ => rfl)) (fun _ _ => rfl)))
  (pss_one (ps_set (i := 3) nd rfl (Or.inl rfl) (pe_op op_add (pe_op op_mul pe_int (pe_callB call_abs (by rfl) G.abs_ (by decide +kernel) (pa_cons (pv 4) pa_nil))) (pe_callTy call_int1 (by rfl) G.int_ (by decide +kernel) (pa_cons (pe_cmpR op_lt (pv 4) pe_int (nomark _)) pa_nil)))))) pss_nil)
  (pss_cons (ps_augS (pv 0) pe_int get_list pe_int ip_add set_list)
  (pss_cons (ps_if (pt_cmpR op_ge (pv 3) (pe_op op_mul pe_int (pe_op op_pow pe_int pe_int)) (nomark _)) (pss_cons (ps_set (i := 2) nd rfl (Or.inl rfl) (pe_op op_modN (pe_callTy call_int1 (by rfl) G.int_ (by decide +kernel) (pa_cons (pe_op (op_fdivR hp) (pv 3) pe_int) pa_nil)) (pe_op op_shl pe_int pe_int)))
  (pss_cons (ps_asg (pe_op (op_fdivR hp) (pv 2) (pv 1)) (pg_sub (pv 0) pe_int set_list))
  (pss_one (ps_ret (pe_op op_modN (pe_callTy call_int1 (by rfl) G.int_ (by decide +kernel) (pa_cons (pv 2) pa_nil)) (pv 1)))))) pss_nil)
  (pss_cons (ps_asg (pe_op op_modN (pe_callTy call_int1 (by rfl) G.int_ (by decide +kernel) (pa_cons (pe_op op_add (pe_op op_add (pe_op op_add (pe_op op_mul (pe_ix (r := rIx K) ix_seq (pv 0) pe_int (fun _ _ => rfl)) pe_int) (pe_op op_mul (pe_op op_modN (pe_callTy call_int1 (by rfl) G.int_ (by decide +kernel) (pa_cons (pv 3) pa_nil)) pe_int) pe_int)) (pe_op op_mul (pe_ix (r := rIx K) ix_seq (pv 0) pe_int (fun _ _ => rfl)) pe_int)) pe_int) pa_nil)) pe_int) (pg_sub (pv 0) pe_int set_list))
  (pss_one (ps_ret (pe_op op_modN (pe_callTy call_int1 (by rfl) G.int_ (by decide +kernel) (pa_cons (pe_op (op_fdivR hp) (pe_ix (r := rIx K) ix_seq (pv 0) pe_int (fun _ _ => rfl)) pe_int) pa_nil)) (pv 1)))))))))), ?_⟩
  try dsimp only [cxOf, L2.Cx.nox, L2.Cx.wish, L2.Cx.blk]
  rintro ds w R ⟨pd, many, rfl, hm, ⟨cs, i, e, h, hi, hw⟩, q⟩
  have hmn : many ≠ 0 := by omega
  have hmod : ∀ x : Int, 0 ≤ x.fmod many ∧ x.fmod many < many := fun x => ⟨Int.fmod_nonneg_of_pos x hm, Int.fmod_lt_of_pos x hm⟩
  repeat' walk_at "dl"
  · refine gd_sub ?_
    repeat' walk_at "dl"
    refine ⟨pd, _, 2, 2, rfl, rfl, hw, rfl, ?_⟩
    repeat' walk_at "dl"
    exact q _ _ (hmod e).1 (hmod e).2 (Only.put hi rfl)
  · refine od_mul (.inl (by omega)) ?_
    repeat' walk_at "dl"
    refine sd_augS ?_
    repeat' walk_at "dl"
    refine ⟨pd, _, 1, 1, .int i, rfl, rfl, hw, rfl, rfl, ?_⟩
    repeat' walk_at "dl"
    refine ⟨_, 1, hw, rfl, ?_⟩
    show SD K _ _ (w.put pd [dI cs, .int (i + 1), .int e, .int h, .int 0]) _
    repeat' walk_at "dl"
    refine od_pow (i := 10) (j := 18) ⟨by decide, by decide, by decide⟩ ?_
    refine od_mul (.inl (by omega)) ?_
    repeat' walk_at "dl"
    · refine od_shl (i := 1) (j := 6000) ⟨by decide, by decide, by decide⟩ ?_
      refine od_modN (by decide +kernel) ?_
      repeat' walk_at "dl"
      refine gd_sub ?_
      repeat' walk_at "dl"
      refine ⟨pd, _, 2, 2, rfl, rfl, Wd.put_same, rfl, ?_⟩
      rw [Wd.put_put]
      repeat' walk_at "dl"
      exact q _ _ (hmod _).1 (hmod _).2 (Only.put (by omega) rfl)
    · refine od_mul (.inr (by omega)) ?_
      repeat' walk_at "dl"
      refine od_mul (.inr (by omega)) ?_
      repeat' walk_at "dl"
      refine od_mul (.inr (by omega)) ?_
      repeat' walk_at "dl"
      refine gd_sub ?_
      repeat' walk_at "dl"
      refine ⟨pd, _, 3, 3, rfl, rfl, Wd.put_same, rfl, ?_⟩
      rw [Wd.put_put]
      repeat' walk_at "dl"
      exact q _ _ (hmod _).1 (hmod _).2 (Only.put (by omega) rfl)
  · refine sd_augS ?_
    repeat' walk_at "dl"
    refine ⟨pd, _, 1, 1, .int i, rfl, rfl, hw, rfl, rfl, ?_⟩
    repeat' walk_at "dl"
    refine ⟨_, 1, hw, rfl, ?_⟩
    show SD K _ _ (w.put pd [dI cs, .int (i + 1), .int e, .int h, .int 0]) _
    repeat' walk_at "dl"
    refine od_pow (i := 10) (j := 18) ⟨by decide, by decide, by decide⟩ ?_
    refine od_mul (.inl (by omega)) ?_
    repeat' walk_at "dl"
    · refine od_mul (.inr (by omega)) ?_
      repeat' walk_at "dl"
      refine od_mul (.inr (by omega)) ?_
      repeat' walk_at "dl"
      refine od_mul (.inr (by omega)) ?_
      repeat' walk_at "dl"
      refine gd_sub ?_
      repeat' walk_at "dl"
      refine ⟨pd, _, 3, 3, rfl, rfl, Wd.put_same, rfl, ?_⟩
      rw [Wd.put_put]
      repeat' walk_at "dl"
      exact q _ _ (hmod _).1 (hmod _).2 (Only.put (by omega) rfl)
end
end K67
set_option Elab.async false
set_option linter.all false
set_option maxRecDepth 100000
set_option maxHeartbeats 4000000
namespace K67
open PySem PySem.Spec PyProof.Rows L2 DL
open Mat (tab tab_length tab_at Tr)
local macro_rules | `(tactic| walk_at "wd") => `(tactic| first
  | exact Wd.put_same
  | exact Wd.at2 (by assumption)
  | assumption
  | exact Wd.put_of (by assumption) (by assumption)
  | exact Wd.put_of (by assumption) (Wd.put_of (by assumption) (by assumption))
  | fail "no world")
local macro_rules | `(tactic| walk_at "sd") => `(tactic| first
  | with_reducible refine sd_seq ?_
  | with_reducible refine sd_set ?_
  | with_reducible refine sd_asg ?_
  | with_reducible refine gd_name ?_
  | with_reducible refine sd_ret ?_
  | with_reducible refine sd_drop ?_
  | with_reducible refine sd_if ?_
  | with_reducible refine sd_par ?_
  | with_reducible refine sd_next ?_
  | with_reducible refine sd_break ?_
  | with_reducible refine sd_aug rfl ?_
  | fail "no step")
local macro_rules | `(tactic| walk_at "ix") => `(tactic| (with_reducible show OD _ (rIx _) _ _ _ _) <;> first
  | refine od_ix (.tup _) rfl ?_
  | refine od_ix (.lst [_, _, _, _]) rfl ?_
  | (refine od_ix (ds := ?dsx) (d := ?ddx) (.obj ?hx) ?hy ?_; (case hx => walk_at "wd"); (case hy => exact rfl))
  | (refine od_ixLast (.lst _) ?_ ?_; (focus omega))
  | (refine od_ixLast (ns := ?nsx) (.obj ?hx) ?ha ?_; (case hx => walk_at "wd"); (case ha => omega))
  | (refine od_ixI (.lst _) ?_ ?_ ?_; (focus omega); (focus omega))
  | (refine od_ixM (.lst _) ?_ ?_ ?_; (focus omega); (focus omega))
  | (refine od_ixI (ns := ?nsx) (.obj ?hx) ?ha ?hb ?_; (case hx => walk_at "wd"); (case ha => omega); (case hb => omega))
  | (refine od_ixM (rows := ?nsx) (.obj ?hx) ?ha ?hb ?_; (case hx => walk_at "wd"); (case ha => omega); (case hb => omega))
  | fail "no index")
local macro_rules | `(tactic| walk_at "dl") => `(tactic| first
  | walk_at "sd"
  | with_reducible refine xd_int ?_
  | with_reducible refine xd_bl ?_
  | with_reducible refine xd_non ?_
  | with_reducible refine xd_str ?_
  | with_reducible refine xd_ty ?_
  | with_reducible refine xd_op ?_
  | with_reducible refine xd_un ?_
  | with_reducible refine xd_if ?_
  | with_reducible refine xd_tup ?_
  | with_reducible refine xd_cb ?_
  | with_reducible refine xd_call ?_
  | with_reducible refine xd_bm ?_
  | with_reducible refine xd_bm0 ?_
  | (refine And.intro (ty_list (ds := ?dsx) (.obj ?hx)) ?_; (case hx => walk_at "wd"))
  | (refine md_appI (ns := ?nsx) ?hx ?ha ?_; (case hx => walk_at "wd"); (case ha => omega))
  | (refine md_appM (rows := ?nsx) ?hx ?ha ?_; (case hx => walk_at "wd"); (case ha => omega))
  | (refine md_popI (ns := ?nsx) ?hx ?ha ?_; (case hx => walk_at "wd"); (case ha => omega))
  | with_reducible refine ad_nil ?_
  | with_reducible refine ad_cons ?_
  | with_reducible refine td_test ?_
  | with_reducible refine td_B ?_
  | with_reducible refine td_and ?_
  | with_reducible refine td_or ?_
  | with_reducible refine td_not ?_
  | with_reducible refine xd_andV ?_
  | with_reducible refine xd_orV ?_
  | with_reducible refine xd_notV ?_
  | with_reducible refine xd_sliceF ?_
  | with_reducible refine pd_none ?_
  | with_reducible refine pd_some ?_
  | with_reducible refine od_add ?_
  | with_reducible refine od_sub ?_
  | (with_reducible refine od_fdivR ?_ ?_; (focus omega))
  | (with_reducible refine od_modN ?_ ?_; (focus omega))
  | (with_reducible refine od_mulX ?_ ?_; (focus (refine mulB (by assumption) (by assumption) (by omega))))
  | with_reducible refine od_mulX ?_ ?_
  | (with_reducible refine od_mul ?_ ?_; (focus (first | exact Or.inl (by omega) | exact Or.inr (by omega))))
  | with_reducible refine od_lt ?_
  | with_reducible refine od_le ?_
  | with_reducible refine od_gt ?_
  | with_reducible refine od_ge ?_
  | with_reducible refine od_eqI ?_
  | with_reducible refine od_neI ?_
  | (refine od_eqL (.lst _) (.lst _) ?_; (focus skip))
  | (refine od_neL (.lst _) (.lst _) ?_; (focus skip))
  | refine od_isL ?_
  | with_reducible refine ud_neg ?_
  | with_reducible refine id_I ?_
  | refine cd_isi (b := true) (.int _) (by with_unfolding_all rfl) ?_
  | refine cd_isi (b := false) (.int _) (by with_unfolding_all rfl) ?_
  | refine cd_isi (b := true) (.lst _) (by with_unfolding_all rfl) ?_
  | with_reducible refine cd_max2 ?_
  | with_reducible refine cd_abs ?_
  | with_reducible refine cd_int1 ?_
  | with_reducible refine cd_intB ?_
  | refine cd_lenI (.lst _) ?_
  | refine cd_lenM (.lst _) ?_
  | (refine cd_lenI (ns := ?nsx) (.obj ?hx) ?_; (case hx => walk_at "wd"))
  | (refine cd_lenM (rows := ?nsx) (.obj ?hx) ?_; (case hx => walk_at "wd"))
  | refine cd_listF (.lst _) ?_
  | (refine cd_listF (ds := ?dsx) (.obj ?hx) ?_; (case hx => walk_at "wd"))
  | (refine od_catI (.lst _) (.lst _) ?_ ?_; (focus (first | omega | (simp only [List.length_append, List.length_map, tab_length]; omega))))
  | walk_at "ix"
  | with_reducible refine xd_var rfl ?_
  | with_reducible refine And.intro rfl ?_
  | with_reducible refine ⟨_, rfl, ?_⟩
  | with_reducible refine ⟨_, _, rfl, ?_⟩
  | (with_reducible refine And.intro (fun hb => ?_) (fun hb => ?_) <;> (try (exact absurd hb (by decide))) <;> (try simp only [decide_eq_true_eq, decide_eq_false_iff_not, Bool.not_eq_true', Bool.not_eq_false', Bool.true_eq_false, Bool.false_eq_true, Bool.not_eq_true, Bool.not_eq_false, Int.not_lt, Int.not_le] at hb))
  | with_reducible exact rfl
  | fail "no step")
local macro_rules | `(tactic| walk_at "ix") => `(tactic| (with_reducible show OD _ (rIx _) _ (.int (Nat.cast _)) _ _) <;> first
  | (refine od_ixIN (.lst _) ?_ ?_; (focus omega))
  | (refine od_ixMN (.lst _) ?_ ?_; (focus omega))
  | (refine od_ixIN (ns := ?nsx) (.obj ?hx) ?ha ?_; (case hx => walk_at "wd"); (case ha => omega))
  | (refine od_ixMN (rows := ?nsx) (.obj ?hx) ?ha ?_; (case hx => walk_at "wd"); (case ha => omega))
  | fail "no index")
local macro_rules | `(tactic| walk_at "dl") => `(tactic| first
  | (refine od_ixO (by assumption) ?_; (focus skip))
  | (refine od_ixT ?_ ?_; (focus omega))
  | refine cd_lenT ?_
  | refine cd_lenTI ?_
  | refine cd_lenO ?_
  | with_reducible refine xd_chain ?_
  | fail "no step")
local macro_rules | `(tactic| walk_at "ix") => `(tactic| (with_reducible show OD _ (rIx _) _ (.int (Nat.cast _)) _ _) <;> first
  | (refine od_ixIN (.tup _) ?_ ?_; (focus omega))
  | (refine od_ixT ?_ ?_; (focus omega))
  | fail "no index")
section
variable {K : PySem.W.Frag} {ρ : DL.Env} {w : Wd} {Q : Dat → Wd → Prop} {te : TE} {tt : TT} {g : TG} {vs : List Nat}
/-- a comprehension over a text -/
theorem xd_lcS {ts : TE} (gw : GW g vs) (h : XD K ts ρ w fun d w0 => ∃ x : Str, d = .str x ∧ ∀ p, w0 p = none → ∃ J : Nat → Wd → Prop, J 0 (w0.put p []) ∧
    (∀ (i c : Nat) (w' : Wd), i < x.cps.size → J i w' → LcStep K g tt te ρ vs p J i (.str ⟨#[c]⟩) w') ∧ ∀ w', J x.cps.size w' → Q (.obj p) w') : XD K (tLc (iStr ts) g tt te vs) ρ w Q := by
  intro σ H Qv a b k
  refine h σ H _ a b fun d w0 u H0 e0 c0 r0 h0 => ?_
  obtain ⟨x, rfl, hp⟩ := h0
  cases r0
  refine ⟨x, rfl, fun D hD => ?_⟩
  obtain ⟨J, j0, step, fin⟩ := hp D (c0.dom hD)
  have eD : Ext w0 (w0.put D []) H0 (upd H0 D (.lst [])) := Ext.newL hD
  refine ⟨fun i m H' => m = x.cps.size - i ∧ i ≤ x.cps.size ∧ ∃ w', Ext w0 w' H0 H' ∧ wr K w' H' ∧ J i w', ⟨x.cps.size, by simp, Nat.zero_le _, _, eD, c0.put eD rfl, j0⟩, ?_⟩
  rintro i m H' ⟨rfl, hi, w', e, c, j⟩
  by_cases hlt : i < x.cps.size
  · refine .inr ⟨hlt, fun H2 => ∃ w', Ext w0 w' H0 H2 ∧ wr K w' H2 ∧ J (i + 1) w', fun H2 q => ⟨x.cps.size - (i + 1), by omega, rfl, by omega, q⟩, fun v H2 hy => ?_⟩
    obtain ⟨rfl, cc, _, rfl⟩ := hy
    exact lc_turn gw (step i cc w' hlt j) e c ((a.ext (e0.trans e)).wipe _) rfl
  · have hi2 : i = x.cps.size := by omega
    subst hi2
    exact .inl ⟨Nat.le_refl _, k (.obj D) w' _ H' (e0.trans e) c rfl (fin w' j)⟩
/-- elements that draw -/
theorem lcd {α : Type} {X : α → Dat} {Px : α → Prop} {pd p : Addr} {w0 : Wd} {n : Nat} {It : Nat → Dat → Prop} (hp : w0 p = none) (hs : Sd pd w0) (hn : n ≤ 1000)
    (h : ∀ (i : Nat) (x : Dat) (w' : Wd), i < n → It i x → Sd pd w' → GD K g x (wipeD ρ vs) w' fun ρ2 w2 => w2 = w' ∧ XD K te ρ2 w' fun y w3 => ∃ x, y = X x ∧ Px x ∧ Only pd w' w3) :
    ∃ J : Nat → Wd → Prop, J 0 (w0.put p []) ∧ (∀ (i : Nat) (x : Dat) (w' : Wd), i < n → It i x → J i w' → LcStep K g tYes te ρ vs p J i x w') ∧
      ∀ w', J n w' → ∃ L : List α, w' p = some (L.map X) ∧ L.length = n ∧ (∀ x ∈ L, Px x) ∧ p ≠ pd ∧ Only pd w0 (w'.del p) ∧ Sd pd w' ∧ ∀ a, a ≠ pd → a ≠ p → w' a = w0 a := by
  have hpp : p ≠ pd := by
    rintro rfl
    obtain ⟨cs, i, e, hh, _, hw⟩ := hs
    rw [hp] at hw; cases hw
  refine ⟨fun i w' => ∃ L : List α, w' p = some (L.map X) ∧ L.length = i ∧ (∀ x ∈ L, Px x) ∧ Sd pd w' ∧ ∀ a, a ≠ pd → a ≠ p → w' a = w0 a, ⟨[], Wd.put_same, rfl, by simp, ?_, fun a _ ha => Wd.put_ne ha⟩, fun i x w' hi hx ⟨L, h1, h2, h3, h4, h5⟩ => ?_, fun w' ⟨L, h1, h2, h3, h4, h5⟩ => ⟨L, h1, h2, h3, hpp, ⟨?_, fun a ha => ?_⟩, h4, h5⟩⟩
  · obtain ⟨cs, i, e, hh, hi, hw⟩ := hs
    exact ⟨cs, i, e, hh, hi, by rw [Wd.put_ne (Ne.symm hpp)]; exact hw⟩
  · intro σ H v Qs ae b r k
    refine h i x w' hi hx h4 σ H v Qs ae b r fun ρ' w2 σ' H' e cw er q => k ρ' w2 σ' H' e cw er ?_
    obtain ⟨rfl, hx2⟩ := q
    refine td_yes ⟨fun _ => xd_mono hx2 fun y w3 hy => ?_, fun z => by cases z⟩
    obtain ⟨z, rfl, hz, ho⟩ := hy
    refine ⟨L.map X, by rw [ho.2 p hpp]; exact h1, by rw [List.length_map, h2]; exact Nat.lt_of_lt_of_le (Nat.lt_of_lt_of_le hi hn) (by decide), L ++ [z], ?_, by rw [List.length_append, h2]; rfl, fun u hu => ?_, ?_, fun a ha1 ha2 => ?_⟩
    · rw [Wd.put_same, List.map_append]; rfl
    · rw [List.mem_append] at hu
      rcases hu with hu | hu
      · exact h3 u hu
      · simp at hu; rw [hu]; exact hz
    · obtain ⟨cs, i, e, hh, hi, hw⟩ := ho.1
      exact ⟨cs, i, e, hh, hi, by rw [Wd.put_ne (Ne.symm hpp)]; exact hw⟩
    · rw [Wd.put_ne ha2, ho.2 a ha1, h5 a ha1 ha2]
  · obtain ⟨cs, i, e, hh, hi, hw⟩ := h4
    exact ⟨cs, i, e, hh, hi, by unfold Wd.del; rw [if_neg (Ne.symm hpp)]; exact hw⟩
  · unfold Wd.del
    by_cases e : a = p
    · rw [if_pos e, e, hp]
    · rw [if_neg e]
      exact h5 a ha e
/-- tuple([.. for .. in range(n)]) where the elements draw -/
theorem xd_tupR {α : Type} {X : α → Dat} {Px : α → Prop} {ar : TA} (gw : GW g vs) (h : AD K ar ρ w fun ds w0 => ∃ (n : Nat) (pd : Addr), ds = [.int n] ∧ n ≤ 1000 ∧ Sd pd w0 ∧
    (∀ (i : Nat) (w' : Wd), i < n → Sd pd w' → GD K g (.int i) (wipeD ρ vs) w' fun ρ2 w2 => w2 = w' ∧ XD K te ρ2 w' fun y w3 => ∃ x, y = X x ∧ Px x ∧ Only pd w' w3) ∧
    ∀ (L : List α) (w' : Wd), L.length = n → (∀ x ∈ L, Px x) → Only pd w0 w' → Q (.tup (L.map X)) w') : XD K (tCB (rTupK K) (tCons (tLc (iRng1 ar) g tYes te vs) tNil)) ρ w Q := by
  refine xd_sub (xd_cb (ad_cons (xd_lcR1 gw (ad_mono h fun ds w0 hq => ?_))))
  obtain ⟨n, pd, rfl, hn, hs, hel, fin⟩ := hq
  refine ⟨n, rfl, by omega, by omega, fun p hp => ?_⟩
  obtain ⟨J, j0, js, je⟩ := lcd (K := K) (ρ := ρ) (vs := vs) (g := g) (te := te) (X := X) (Px := Px) (n := n) (It := fun i x => x = .int i) hp hs hn fun i x w' hi hx => by subst hx; exact hel i w' hi
  refine ⟨J, j0, fun i w' hi hj => js i _ w' (by omega) rfl hj, fun w' hj => ?_⟩
  rw [Int.toNat_natCast] at hj
  obtain ⟨L, h1, h2, h3, h4, h5, h6, h7⟩ := je w' hj
  exact ad_nil (cd_tupleL (.obj h1) ⟨w'.del p, sub_del, fin L _ h2 h3 h5⟩)
theorem xd_tupS {α : Type} {X : α → Dat} {Px : α → Prop} {ts : TE} (gw : GW g vs) (h : XD K ts ρ w fun d w0 => ∃ (s : Str) (pd : Addr), d = .str s ∧ s.cps.size ≤ 1000 ∧ Sd pd w0 ∧
    (∀ (c : Nat) (w' : Wd), Sd pd w' → GD K g (.str ⟨#[c]⟩) (wipeD ρ vs) w' fun ρ2 w2 => w2 = w' ∧ XD K te ρ2 w' fun y w3 => ∃ x, y = X x ∧ Px x ∧ Only pd w' w3) ∧
    ∀ (L : List α) (w' : Wd), L.length = s.cps.size → (∀ x ∈ L, Px x) → Only pd w0 w' → Q (.tup (L.map X)) w') : XD K (tCB (rTupK K) (tCons (tLc (iStr ts) g tYes te vs) tNil)) ρ w Q := by
  refine xd_sub (xd_cb (ad_cons (xd_lcS gw (xd_mono h fun d w0 hq => ?_))))
  obtain ⟨s, pd, rfl, hn, hs, hel, fin⟩ := hq
  refine ⟨s, rfl, fun p hp => ?_⟩
  obtain ⟨J, j0, js, je⟩ := lcd (K := K) (ρ := ρ) (vs := vs) (g := g) (te := te) (X := X) (Px := Px) (n := s.cps.size) (It := fun i x => ∃ c, x = .str ⟨#[c]⟩) hp hs hn fun i x w' hi hx => by obtain ⟨c, rfl⟩ := hx; exact hel c w'
  refine ⟨J, j0, fun i c w' hi hj => js i _ w' hi ⟨c, rfl⟩ hj, fun w' hj => ?_⟩
  obtain ⟨L, h1, h2, h3, h4, h5, h6, h7⟩ := je w' hj
  exact ad_nil (cd_tupleL (.obj h1) ⟨w'.del p, sub_del, fin L _ h2 h3 h5⟩)
/-- .. a list to be changed later -/
theorem xd_objR {α : Type} {X : α → Dat} {Px : α → Prop} {ar : TA} (gw : GW g vs) (h : AD K ar ρ w fun ds w0 => ∃ (n : Nat) (pd : Addr), ds = [.int n] ∧ n ≤ 1000 ∧ Sd pd w0 ∧
    (∀ (i : Nat) (w' : Wd), i < n → Sd pd w' → GD K g (.int i) (wipeD ρ vs) w' fun ρ2 w2 => w2 = w' ∧ XD K te ρ2 w' fun y w3 => ∃ x, y = X x ∧ Px x ∧ Only pd w' w3) ∧
    ∀ (p : Addr) (L : List α) (w' : Wd), w0 p = none → w' p = some (L.map X) → L.length = n → (∀ x ∈ L, Px x) → Sd pd w' → Only pd w0 (w'.del p) → Q (.obj p) w') : XD K (tLc (iRng1 ar) g tYes te vs) ρ w Q := by
  refine xd_lcR1 gw (ad_mono h fun ds w0 hq => ?_)
  obtain ⟨n, pd, rfl, hn, hs, hel, fin⟩ := hq
  refine ⟨n, rfl, by omega, by omega, fun p hp => ?_⟩
  obtain ⟨J, j0, js, je⟩ := lcd (K := K) (ρ := ρ) (vs := vs) (g := g) (te := te) (X := X) (Px := Px) (n := n) (It := fun i x => x = .int i) hp hs hn fun i x w' hi hx => by subst hx; exact hel i w' hi
  refine ⟨J, j0, fun i w' hi hj => js i _ w' (by omega) rfl hj, fun w' hj => ?_⟩
  rw [Int.toNat_natCast] at hj
  obtain ⟨L, h1, h2, h3, h4, h5, h6, h7⟩ := je w' hj
  exact fin p L w' hp h1 h2 h3 h6 h5
end
section
variable {P : Program} {wo : World} {K : PySem.W.Frag} {mg : Str → Option Value} {base : Heap}
def fs_coefs : FS := fun ds w Q => ∃ (pd : Addr) (many reach : Nat), ds = [.obj pd, .int many, .int reach] ∧ many ≤ 1000 ∧ reach ≤ 1000000 ∧ Sd pd w ∧
  ∀ (p : Addr) (L : List Int) (w' : Wd), w p = none → w' p = some (L.map .int) → L.length = many → (∀ x ∈ L, -(reach : Int) ≤ x ∧ x ≤ reach) → Sd pd w' → Only pd w (w'.del p) → Q (.obj p) w'
theorem ok_law_coefficients (G : Bltn mg) (C_law_draw : Cal P wo K mg base 41 "_law_draw" ["d", "many"] fs_draw) {f : Addr} {fd : FuncData} (F : Fun K "_law_coefficients" "_law_coefficients" s_law_coefficients f fd) : FnOk P wo K mg base CX0 42 f fd ["d", "many", "reach"] (spOf K fs_coefs) := by
  have nd := sc_law_coefficients.nd
  refine fn_ok F sc_law_coefficients (fun ds w Q h => ?_) fun cdv A outer s H E hr => ?_
  · obtain ⟨_, _, _, rfl, _⟩ := h
    rfl
  refine ⟨_, (pss_one (ps_ret (pe_lc (own := [("k", 3)]) (g := gName 3) (tt := tYes) rfl nd (pi_range1 (by rfl) G.range_ (pa_cons (pv 1) pa_nil)) (blkOk_by (own := [("k", 3)]) (N := n_law_coefficients) (sc := (defScope s_law_coefficients)) (by decide +kernel)) (fun _ _ _ _ _ => (pg_name (i := 3) nd rfl (Or.inl rfl))) (fun _ _ _ _ _ => pts_nil) (fun _ _ _ _ _ => (pe_op op_sub (pe_calK C_law_draw rfl rfl rfl rfl rfl (hr.mono (by decide)) (by rfl) (pa_cons (pv 0) (pa_cons (pe_op op_add (pe_op op_mul pe_int (pv 2)) pe_int) pa_nil))) (pv 2)))))), ?_⟩
  try dsimp only [cxOf, L2.Cx.nox, L2.Cx.wish, L2.Cx.blk]
  rintro ds w R ⟨pd, many, reach, rfl, hm, hr1, hs, q⟩
  refine sd_ret ?_
  refine xd_objR (X := .int) (Px := fun x : Int => -(reach : Int) ≤ x ∧ x ≤ reach) (gw_name (by decide)) ?_
  repeat' walk_at "dl"
  refine ⟨many, pd, rfl, hm, hs, fun i w' hi hs' => ?_, q⟩
  repeat' walk_at "dl"
  refine od_mul (.inl (by omega)) ?_
  repeat' walk_at "dl"
  refine ⟨pd, _, rfl, by omega, hs', fun r w2 h1 h2 h3 => ?_⟩
  repeat' walk_at "dl"
  exact ⟨⟨by omega, by omega⟩, h3⟩
def fs_rare : FS := fun ds w Q => ∃ (pd : Addr) (many : Int), ds = [.obj pd, .int many] ∧ 0 < many ∧ Sd pd w ∧ ∀ (b : Bool) (w' : Wd), Only pd w w' → Q (.bl b) w'
theorem ok_law_rare (G : Bltn mg) (hS : base.NoSeer) (hT : P.given.tree = none) (C_law_draw : Cal P wo K mg base 41 "_law_draw" ["d", "many"] fs_draw) {f : Addr} {fd : FuncData} (F : Fun K "_law_rare" "_law_rare" s_law_rare f fd) : FnOk P wo K mg base CX0 42 f fd ["d", "many"] (spOf K fs_rare) := by
  have nd := sc_law_rare.nd
  refine fn_ok F sc_law_rare (fun ds w Q h => ?_) fun cdv A outer s H E hr => ?_
  · obtain ⟨_, _, rfl, _⟩ := h
    rfl
  have hp := plain_of (N := n_law_rare) (wo := wo) (K := K) (mg := mg) (outer := outer) (H := H) (E := E) hS hT hr (by decide) rfl rfl
  refine ⟨_, (pss_one (ps_ret (pe_cmpR op_eq (pe_calK C_law_draw rfl rfl rfl rfl rfl (hr.mono (by decide)) (by rfl) (pa_cons (pv 0) (pa_cons (pv 1) pa_nil))) (pe_op (op_fdivR hp) (pv 1) pe_int) (nomark _)))), ?_⟩
  try dsimp only [cxOf, L2.Cx.nox, L2.Cx.wish, L2.Cx.blk]
  rintro ds w R ⟨pd, many, rfl, hm, hs, q⟩
  repeat' walk_at "dl"
  refine ⟨pd, many, rfl, hm, hs, fun r w' h1 h2 h3 => ?_⟩
  repeat' walk_at "dl"
  exact q _ _ h3
def fs_begin : FS := fun ds w Q => ∃ ns : List Int, ds = [.slst (ns.map .int)] ∧ ns.length ≤ 1000 ∧ ∀ (pd : Addr) (w' : Wd), w pd = none → Only pd w w' → Q (.obj pd) w'
theorem ok_law_begin (G : Bltn mg) {f : Addr} {fd : FuncData} (F : Fun K "_law_begin" "_law_begin" s_law_begin f fd) : FnOk P wo K mg base CX0 41 f fd ["script"] (spOf K fs_begin) := by
  have nd := sc_law_begin.nd
  refine fn_ok F sc_law_begin (fun ds w Q h => ?_) fun cdv A outer s H E hr => ?_
  · obtain ⟨_, rfl, _⟩ := h
    rfl
  refine ⟨_, (pss_one (ps_ret (pe_lst (pa_cons (pe_lc (own := [("cell", 1)]) (g := gName 1) (tt := tYes) rfl nd (pi_listK (K := K) rfl (pv 0)) (blkOk_by (own := [("cell", 1)]) (N := n_law_begin) (sc := (defScope s_law_begin)) (by decide +kernel)) (fun _ _ _ _ _ => (pg_name (i := 1) nd rfl (Or.inl rfl))) (fun _ _ _ _ _ => pts_nil) (fun _ _ _ _ _ => (pe_callTy call_int1 (by rfl) G.int_ (by decide +kernel) (pa_cons (pv 1) pa_nil)))) (pa_cons pe_int (pa_cons pe_int (pa_cons pe_int (pa_cons pe_int pa_nil)))))))), ?_⟩
  try dsimp only [cxOf, L2.Cx.nox, L2.Cx.wish, L2.Cx.blk]
  rintro ds w R ⟨ns, rfl, hl, q⟩
  repeat' walk_at "dl"
  refine xd_lst ?_
  repeat' walk_at "dl"
  refine xd_lcLG (gw_name (by decide)) ?_
  repeat' walk_at "dl"
  refine ⟨_, .slst _, by rw [List.length_map]; omega, fun d => d, fun i x w' hx hw => ?_, ?_⟩
  · rw [List.getElem?_map] at hx
    obtain ⟨a, ha, rfl⟩ := Option.map_eq_some_iff.mp hx
    repeat' walk_at "dl"
  repeat' walk_at "dl"
  rw [List.map_id']
  exact ⟨by show 5 ≤ sizeLine; decide, fun pd hp => q pd _ hp (Only.put (cs := ns) (i := 0) (e := 0) (h := 7) (Int.le_refl 0) rfl)⟩
end
end K67
set_option Elab.async false
set_option linter.all false
set_option maxRecDepth 100000
set_option maxHeartbeats 4000000
namespace K67
open PySem PySem.Spec PyProof.Rows L2 DL
open Mat (tab tab_length tab_at Tr)
local macro_rules | `(tactic| walk_at "wd") => `(tactic| first
  | exact Wd.put_same
  | exact Wd.at2 (by assumption)
  | assumption
  | exact Wd.put_of (by assumption) (by assumption)
  | exact Wd.put_of (by assumption) (Wd.put_of (by assumption) (by assumption))
  | fail "no world")
local macro_rules | `(tactic| walk_at "sd") => `(tactic| first
  | with_reducible refine sd_seq ?_
  | with_reducible refine sd_set ?_
  | with_reducible refine sd_asg ?_
  | with_reducible refine gd_name ?_
  | with_reducible refine sd_ret ?_
  | with_reducible refine sd_drop ?_
  | with_reducible refine sd_if ?_
  | with_reducible refine sd_par ?_
  | with_reducible refine sd_next ?_
  | with_reducible refine sd_break ?_
  | with_reducible refine sd_aug rfl ?_
  | fail "no step")
local macro_rules | `(tactic| walk_at "ix") => `(tactic| (with_reducible show OD _ (rIx _) _ _ _ _) <;> first
  | refine od_ix (.tup _) rfl ?_
  | refine od_ix (.lst [_, _, _, _]) rfl ?_
  | (refine od_ix (ds := ?dsx) (d := ?ddx) (.obj ?hx) ?hy ?_; (case hx => walk_at "wd"); (case hy => exact rfl))
  | (refine od_ixLast (.lst _) ?_ ?_; (focus omega))
  | (refine od_ixLast (ns := ?nsx) (.obj ?hx) ?ha ?_; (case hx => walk_at "wd"); (case ha => omega))
  | (refine od_ixI (.lst _) ?_ ?_ ?_; (focus omega); (focus omega))
  | (refine od_ixM (.lst _) ?_ ?_ ?_; (focus omega); (focus omega))
  | (refine od_ixI (ns := ?nsx) (.obj ?hx) ?ha ?hb ?_; (case hx => walk_at "wd"); (case ha => omega); (case hb => omega))
  | (refine od_ixM (rows := ?nsx) (.obj ?hx) ?ha ?hb ?_; (case hx => walk_at "wd"); (case ha => omega); (case hb => omega))
  | fail "no index")
local macro_rules | `(tactic| walk_at "dl") => `(tactic| first
  | walk_at "sd"
  | with_reducible refine xd_int ?_
  | with_reducible refine xd_bl ?_
  | with_reducible refine xd_non ?_
  | with_reducible refine xd_str ?_
  | with_reducible refine xd_ty ?_
  | with_reducible refine xd_op ?_
  | with_reducible refine xd_un ?_
  | with_reducible refine xd_if ?_
  | with_reducible refine xd_tup ?_
  | with_reducible refine xd_cb ?_
  | with_reducible refine xd_call ?_
  | with_reducible refine xd_bm ?_
  | with_reducible refine xd_bm0 ?_
  | (refine And.intro (ty_list (ds := ?dsx) (.obj ?hx)) ?_; (case hx => walk_at "wd"))
  | (refine md_appI (ns := ?nsx) ?hx ?ha ?_; (case hx => walk_at "wd"); (case ha => omega))
  | (refine md_appM (rows := ?nsx) ?hx ?ha ?_; (case hx => walk_at "wd"); (case ha => omega))
  | (refine md_popI (ns := ?nsx) ?hx ?ha ?_; (case hx => walk_at "wd"); (case ha => omega))
  | with_reducible refine ad_nil ?_
  | with_reducible refine ad_cons ?_
  | with_reducible refine td_test ?_
  | with_reducible refine td_B ?_
  | with_reducible refine td_and ?_
  | with_reducible refine td_or ?_
  | with_reducible refine td_not ?_
  | with_reducible refine xd_andV ?_
  | with_reducible refine xd_orV ?_
  | with_reducible refine xd_notV ?_
  | with_reducible refine xd_sliceF ?_
  | with_reducible refine pd_none ?_
  | with_reducible refine pd_some ?_
  | with_reducible refine od_add ?_
  | with_reducible refine od_sub ?_
  | (with_reducible refine od_fdivR ?_ ?_; (focus omega))
  | (with_reducible refine od_modN ?_ ?_; (focus omega))
  | (with_reducible refine od_mulX ?_ ?_; (focus (refine mulB (by assumption) (by assumption) (by omega))))
  | with_reducible refine od_mulX ?_ ?_
  | (with_reducible refine od_mul ?_ ?_; (focus (first | exact Or.inl (by omega) | exact Or.inr (by omega))))
  | with_reducible refine od_lt ?_
  | with_reducible refine od_le ?_
  | with_reducible refine od_gt ?_
  | with_reducible refine od_ge ?_
  | with_reducible refine od_eqI ?_
  | with_reducible refine od_neI ?_
  | (refine od_eqL (.lst _) (.lst _) ?_; (focus skip))
  | (refine od_neL (.lst _) (.lst _) ?_; (focus skip))
  | refine od_isL ?_
  | with_reducible refine ud_neg ?_
  | with_reducible refine id_I ?_
  | refine cd_isi (b := true) (.int _) (by with_unfolding_all rfl) ?_
  | refine cd_isi (b := false) (.int _) (by with_unfolding_all rfl) ?_
  | refine cd_isi (b := true) (.lst _) (by with_unfolding_all rfl) ?_
  | with_reducible refine cd_max2 ?_
  | with_reducible refine cd_abs ?_
  | with_reducible refine cd_int1 ?_
  | with_reducible refine cd_intB ?_
  | refine cd_lenI (.lst _) ?_
  | refine cd_lenM (.lst _) ?_
  | (refine cd_lenI (ns := ?nsx) (.obj ?hx) ?_; (case hx => walk_at "wd"))
  | (refine cd_lenM (rows := ?nsx) (.obj ?hx) ?_; (case hx => walk_at "wd"))
  | refine cd_listF (.lst _) ?_
  | (refine cd_listF (ds := ?dsx) (.obj ?hx) ?_; (case hx => walk_at "wd"))
  | (refine od_catI (.lst _) (.lst _) ?_ ?_; (focus (first | omega | (simp only [List.length_append, List.length_map, tab_length]; omega))))
  | walk_at "ix"
  | with_reducible refine xd_var rfl ?_
  | with_reducible refine And.intro rfl ?_
  | with_reducible refine ⟨_, rfl, ?_⟩
  | with_reducible refine ⟨_, _, rfl, ?_⟩
  | (with_reducible refine And.intro (fun hb => ?_) (fun hb => ?_) <;> (try (exact absurd hb (by decide))) <;> (try simp only [decide_eq_true_eq, decide_eq_false_iff_not, Bool.not_eq_true', Bool.not_eq_false', Bool.true_eq_false, Bool.false_eq_true, Bool.not_eq_true, Bool.not_eq_false, Int.not_lt, Int.not_le] at hb))
  | with_reducible exact rfl
  | fail "no step")
local macro_rules | `(tactic| walk_at "ix") => `(tactic| (with_reducible show OD _ (rIx _) _ (.int (Nat.cast _)) _ _) <;> first
  | (refine od_ixIN (.lst _) ?_ ?_; (focus omega))
  | (refine od_ixMN (.lst _) ?_ ?_; (focus omega))
  | (refine od_ixIN (ns := ?nsx) (.obj ?hx) ?ha ?_; (case hx => walk_at "wd"); (case ha => omega))
  | (refine od_ixMN (rows := ?nsx) (.obj ?hx) ?ha ?_; (case hx => walk_at "wd"); (case ha => omega))
  | fail "no index")
local macro_rules | `(tactic| walk_at "dl") => `(tactic| first
  | (refine od_ixO (by assumption) ?_; (focus skip))
  | (refine od_ixT ?_ ?_; (focus omega))
  | refine cd_lenT ?_
  | refine cd_lenTI ?_
  | refine cd_lenO ?_
  | with_reducible refine xd_chain ?_
  | fail "no step")
local macro_rules | `(tactic| walk_at "ix") => `(tactic| (with_reducible show OD _ (rIx _) _ (.int (Nat.cast _)) _ _) <;> first
  | (refine od_ixIN (.tup _) ?_ ?_; (focus omega))
  | (refine od_ixT ?_ ?_; (focus omega))
  | fail "no index")
theorem del_put_any {w : Wd} {p : Addr} {xs : List Dat} : (w.put p xs).del p = w.del p := by
  funext a
  unfold Wd.del Wd.put
  split <;> rfl
section
variable {P : Program} {wo : World} {K : PySem.W.Frag} {mg : Str → Option Value} {base : Heap}
def fs_poly : FS := fun ds w Q => ∃ (pd : Addr) (least most : Nat), ds = [.obj pd, .int least, .int most] ∧ least ≤ most ∧ most ≤ 100 ∧ Sd pd w ∧
  ∀ (L : List Int) (w' : Wd), least ≤ L.length → L.length ≤ most → Tr L → Sz 20 L → Only pd w w' → Q (dI L) w'
theorem ok_law_poly (G : Bltn mg) (C_law_draw : Cal P wo K mg base 41 "_law_draw" ["d", "many"] fs_draw) (C_law_coefficients : Cal P wo K mg base 42 "_law_coefficients" ["d", "many", "reach"] fs_coefs) {f : Addr} {fd : FuncData} (F : Fun K "_law_poly" "_law_poly" s_law_poly f fd) : FnOk P wo K mg base CX0 43 f fd ["d", "least", "most"] (spOf K fs_poly) := by
  have nd := sc_law_poly.nd
  refine fn_ok F sc_law_poly (fun ds w Q h => ?_) fun cdv A outer s H E hr => ?_
  · obtain ⟨_, _, _, rfl, _⟩ := h
    rfl
  refine ⟨_, (pss_cons (ps_set (i := 3) nd rfl (Or.inl rfl) (pe_op op_add (pv 1) (pe_calK C_law_draw rfl rfl rfl rfl rfl (hr.mono (by decide)) (by rfl) (pa_cons (pv 0) (pa_cons (pe_op op_sub (pe_op op_add (pv 2) pe_int) (pv 1)) pa_nil)))))
  (pss_cons (ps_set (i := 4) nd rfl (Or.inl rfl) (pe_ix (r := rIx K) ix_seq (pe_lst (pa_cons pe_int (pa_cons pe_int (pa_cons pe_int (pa_cons pe_int (pa_cons pe_int (pa_cons pe_int (pa_cons pe_int (pa_cons (pe_op op_pow pe_int pe_int) pa_nil))))))))) (pe_calK C_law_draw rfl rfl rfl rfl rfl (hr.mono (by decide)) (by rfl) (pa_cons (pv 0) (pa_cons pe_int pa_nil))) (fun _ _ => rfl)))
  (pss_cons (ps_set (i := 5) nd rfl (Or.inl rfl) (pe_calK C_law_coefficients rfl rfl rfl rfl rfl (hr.mono (by decide)) (by rfl) (pa_cons (pv 0) (pa_cons (pv 3) (pa_cons (pv 4) pa_nil)))))
  (pss_cons (ps_if (PW.pt (pw_and (pt_cmpR op_gt (pv 3) pe_int (nomark _)) (pw_and1 (pt_cmpR op_eq (pe_ix (r := rIx K) ix_seq (pv 5) (pe_op op_sub (pv 3) pe_int) (fun _ _ => rfl)) pe_int (nomark _))))) (pss_one (ps_asg (pv 4) (pg_sub (pv 5) (pe_op op_sub (pv 3) pe_int) set_list))) pss_nil)
  (pss_one (ps_ret (pv 5))))))), ?_⟩
  try dsimp only [cxOf, L2.Cx.nox, L2.Cx.wish, L2.Cx.blk]
  rintro ds w R ⟨pd, least, most, rfl, hlm, hm, hs, q⟩
  refine sd_rf ?_
  repeat' walk_at "dl"
  refine ⟨pd, _, rfl, by omega, hs, fun r w1 h1 h2 h3 => ?_⟩
  obtain ⟨m, hmm⟩ : ∃ m : Nat, (least : Int) + r = m := ⟨((least : Int) + r).toNat, by omega⟩
  repeat' walk_at "dl"
  rw [hmm]
  refine xd_lstF ?_
  repeat' walk_at "dl"
  refine od_pow (i := 10) (j := 6) ⟨by decide, by decide, by decide⟩ ?_
  repeat' walk_at "dl"
  refine ⟨by show 8 ≤ sizeLine; decide, ?_⟩
  repeat' walk_at "dl"
  refine ⟨pd, 8, rfl, by omega, h3.1, fun r2 w2 g1 g2 g3 => ?_⟩
  have hlist : ∀ k, k < 8 → 0 < ([3, 1, 9, 3, 9, 1, 3, 1000000] : List Int).getD k 0 ∧ ([3, 1, 9, 3, 9, 1, 3, 1000000] : List Int).getD k 0 ≤ 1000000 := by decide
  have hl2 := hlist r2.toNat (by omega)
  refine od_ixI (ns := [3, 1, 9, 3, 9, 1, 3, 1000000]) (.lst _) g1 (by show r2 < 8; omega) ?_
  generalize ([3, 1, 9, 3, 9, 1, 3, 1000000] : List Int).getD r2.toNat 0 = rc at *
  obtain ⟨rn, hrn⟩ : ∃ rn : Nat, rc = rn := ⟨rc.toNat, by omega⟩
  subst hrn
  repeat' walk_at "dl"
  refine ⟨pd, m, rn, rfl, by omega, by omega, g3.1, fun p L w3 k1 k2 k3 k4 k5 k6 => ?_⟩
  have hsz : Sz 20 L := Sz.of fun x hx => by
    have := k4 x hx
    have e : (2 : Nat) ^ 20 = 1048576 := by decide
    show x.natAbs < 2 ^ 20
    omega
  have hon : Only pd w (w3.del p) := (h3.trans g3).trans k6
  have hrf : ∀ (d : List Int) (w4 : Wd), w4 p = some (d.map .int) → d.length = m → Tr d → Sz 20 d → Only pd w (w4.del p) → RF R (.obj p) w4 := fun d w4 e1 e2 e3 e4 e5 => .inr ⟨p, _, rfl, e1, q d _ (by omega) (by omega) e3 e4 e5⟩
  repeat' walk_at "dl"
  · refine gd_subI ?_
    repeat' walk_at "dl"
    refine ⟨p, L, _, rfl, rfl, k2, by omega, by omega, ?_⟩
    rw [show ((m : Int) - 1).toNat = m - 1 by omega]
    repeat' walk_at "dl"
    refine hrf (L.set (m - 1) rn) _ Wd.put_same (by rw [List.length_set]; exact k3) (fun h => ?_) (fun k => ?_) (by rw [del_put_any]; exact hon)
    · rw [List.length_set, getD_set _ (by omega), if_pos (by omega)]
      omega
    · rw [getD_set k (by omega)]
      split
      · have e : (2 : Nat) ^ 20 = 1048576 := by decide
        show (rn : Int).natAbs < 2 ^ 20
        omega
      · exact hsz k
  · have e := ‹¬ L.getD ((m : Int) - 1).toNat 0 = 0›
    rw [show ((m : Int) - 1).toNat = L.length - 1 by omega] at e
    exact hrf L w3 k2 k3 (fun _ => e) hsz hon
  · exact hrf L w3 k2 k3 (fun h => by omega) hsz hon
def fs_states : FS := fun ds w Q => ∃ (pd : Addr) (x : Str) (most : Nat), ds = [.obj pd, .str x, .int most] ∧ x.cps.size ≤ 4 ∧ 0 < most ∧ most ≤ 100 ∧ Sd pd w ∧
  ∀ (n : Nat) (rows : List (List Int)) (bits : List Int) (w' : Wd), 0 < n → n ≤ most → Sts rows n → bits.length = n → Only pd w w' → Q (.tup [.str "states", tM rows, tI bits]) w'
theorem ok_law_states (G : Bltn mg) (C_law_draw : Cal P wo K mg base 41 "_law_draw" ["d", "many"] fs_draw) {f : Addr} {fd : FuncData} (F : Fun K "_law_states" "_law_states" s_law_states f fd) : FnOk P wo K mg base CX0 42 f fd ["d", "letters", "most"] (spOf K fs_states) := by
  have nd := sc_law_states.nd
  refine fn_ok F sc_law_states (fun ds w Q h => ?_) fun cdv A outer s H E hr => ?_
  · obtain ⟨_, _, _, rfl, _⟩ := h
    rfl
  refine ⟨_, (pss_cons (ps_set (i := 3) nd rfl (Or.inr rfl) (pe_op op_add pe_int (pe_calK C_law_draw rfl rfl rfl rfl rfl (hr.mono (by decide)) (by rfl) (pa_cons (pv 0) (pa_cons (pv 2) pa_nil)))))
  (pss_cons (ps_set (i := 4) nd rfl (Or.inl rfl) (pe_callTy (r := rTupK K) call_tuple_of (by rfl) G.tuple_ (by decide +kernel) (pa_cons (pe_lc (own := [("k", 5)]) (g := gName 5) (tt := tYes) rfl nd (pi_range1 (by rfl) G.range_ (pa_cons (pv 3) pa_nil)) (blkOk_by (own := [("k", 5)]) (N := n_law_states) (sc := (defScope s_law_states)) (by decide +kernel)) (fun _ _ _ _ _ => (pg_name (i := 5) nd rfl (Or.inl rfl))) (fun _ _ _ _ _ => pts_nil) (fun _ _ _ _ _ => (pe_callTy (r := rTupK K) call_tuple_of (by rfl) G.tuple_ (by decide +kernel) (pa_cons (pe_lc (own := [("sign", 6)]) (g := gName 6) (tt := tYes) rfl nd (pi_str (pv 1)) (blkOk_by (own := [("sign", 6)]) (N := n_law_states) (sc := (relS _ (defScope s_law_states))) (by decide +kernel)) (fun _ _ _ _ _ => (pg_name (i := 6) nd rfl (Or.inl rfl))) (fun _ _ _ _ _ => pts_nil) (fun _ _ _ _ _ => (pe_calK C_law_draw rfl rfl rfl rfl rfl (hr.mono (by decide)) (by rfl) (pa_cons (pv 0) (pa_cons (pv 3) pa_nil))))) pa_nil)))) pa_nil)))
  (pss_one (ps_ret (pe_tup (pa_cons pe_str (pa_cons (pv 4) (pa_cons (pe_callTy (r := rTupK K) call_tuple_of (by rfl) G.tuple_ (by decide +kernel) (pa_cons (pe_lc (own := [("k", 5)]) (g := gName 5) (tt := tYes) rfl nd (pi_range1 (by rfl) G.range_ (pa_cons (pv 3) pa_nil)) (blkOk_by (own := [("k", 5)]) (N := n_law_states) (sc := (defScope s_law_states)) (by decide +kernel)) (fun _ _ _ _ _ => (pg_name (i := 5) nd rfl (Or.inl rfl))) (fun _ _ _ _ _ => pts_nil) (fun _ _ _ _ _ => (pe_calK C_law_draw rfl rfl rfl rfl rfl (hr.mono (by decide)) (by rfl) (pa_cons (pv 0) (pa_cons pe_int pa_nil))))) pa_nil)) pa_nil)))))))), ?_⟩
  try dsimp only [cxOf, L2.Cx.nox, L2.Cx.wish, L2.Cx.blk]
  rintro ds w R ⟨pd, x, most, rfl, hx4, hm0, hm, hs, q⟩
  repeat' walk_at "dl"
  refine ⟨pd, _, rfl, by omega, hs, fun r w1 h1 h2 h3 => ?_⟩
  obtain ⟨n, hn⟩ : ∃ n : Nat, 1 + r = (n : Int) := ⟨(1 + r).toNat, by omega⟩
  refine od_add ?_
  rw [hn]
  have hnr : 0 < n ∧ n ≤ most := by omega
  refine sd_seq (sd_set ?_)
  refine xd_tupR (X := tI) (Px := fun r : List Int => r.length ≤ 4 ∧ ∀ x ∈ r, 0 ≤ x ∧ x < n) (gw_name (by decide)) ?_
  repeat' walk_at "dl"
  refine ⟨n, pd, rfl, by omega, h3.1, fun k w2 hk hs2 => gd_name ⟨rfl, ?_⟩, fun rows w2 hl hr hon => ?_⟩
  · refine xd_tupS (X := .int) (Px := fun x : Int => 0 ≤ x ∧ x < n) (gw_name (by decide)) (xd_var rfl ⟨x, pd, rfl, by omega, hs2, fun c w3 hs3 => gd_name ⟨rfl, ?_⟩, fun L w3 hl hL hon => ⟨L, rfl, ⟨by omega, hL⟩, hon⟩⟩)
    repeat' walk_at "dl"
    exact ⟨pd, n, rfl, by omega, hs3, fun r w4 e1 e2 e3 => ⟨r, rfl, ⟨e1, e2⟩, e3⟩⟩
  have hst : Sts rows n := ⟨hl, hr⟩
  refine sd_ret (xd_tup (ad_cons (xd_str (ad_cons (xd_var rfl (ad_cons ?_))))))
  refine xd_tupR (X := .int) (Px := fun x : Int => 0 ≤ x ∧ x < 2) (gw_name (by decide)) ?_
  repeat' walk_at "dl"
  refine ⟨n, pd, rfl, by omega, hon.1, fun k w3 hk hs3 => gd_name ⟨rfl, ?_⟩, fun bits w3 hb1 hb2 hon2 => ?_⟩
  · repeat' walk_at "dl"
    exact ⟨pd, 2, rfl, by omega, hs3, fun r w4 e1 e2 e3 => ⟨r, rfl, ⟨e1, e2⟩, e3⟩⟩
  repeat' walk_at "dl"
  refine ⟨by show 3 ≤ sizeLine; decide, ?_⟩
  exact q n rows bits w3 hnr.1 hnr.2 hst hb1 ((h3.trans hon).trans hon2)
def fs_auto : FS := fun ds w Q => ∃ (pd : Addr) (x : Str) (most : Nat), ds = [.obj pd, .str x, .int most] ∧ x.cps.size ≤ 4 ∧ 0 < most ∧ most ≤ 100 ∧ Sd pd w ∧
  ∀ (n : Nat) (rows : List (List Int)) (bits : List Int) (w' : Wd), 0 < n → n ≤ most → Sts rows n → bits.length = n → Only pd w w' → Q (.tup [.str "auto", .str x, tM rows, tI bits]) w'
theorem ok_law_auto (G : Bltn mg) (C_law_states : Cal P wo K mg base 42 "_law_states" ["d", "letters", "most"] fs_states) {f : Addr} {fd : FuncData} (F : Fun K "_law_auto" "_law_auto" s_law_auto f fd) : FnOk P wo K mg base CX0 43 f fd ["d", "letters", "most"] (spOf K fs_auto) := by
  have nd := sc_law_auto.nd
  refine fn_ok F sc_law_auto (fun ds w Q h => ?_) fun cdv A outer s H E hr => ?_
  · obtain ⟨_, _, _, rfl, _⟩ := h
    rfl
  refine ⟨_, (pss_cons (ps_set (i := 3) nd rfl (Or.inl rfl) (pe_calK C_law_states rfl rfl rfl rfl rfl (hr.mono (by decide)) (by rfl) (pa_cons (pv 0) (pa_cons (pv 1) (pa_cons (pv 2) pa_nil)))))
  (pss_one (ps_ret (pe_tup (pa_cons pe_str (pa_cons (pv 1) (pa_cons (pe_ix (r := rIx K) ix_seq (pv 3) pe_int (fun _ _ => rfl)) (pa_cons (pe_ix (r := rIx K) ix_seq (pv 3) pe_int (fun _ _ => rfl)) pa_nil)))))))), ?_⟩
  try dsimp only [cxOf, L2.Cx.nox, L2.Cx.wish, L2.Cx.blk]
  rintro ds w R ⟨pd, x, most, rfl, hx4, hm0, hm, hs, q⟩
  repeat' walk_at "dl"
  refine ⟨pd, x, most, rfl, hx4, hm0, hm, hs, fun n rows bits w' h1 h2 h3 h4 h5 => ?_⟩
  repeat' walk_at "dl"
  refine ⟨by show 4 ≤ sizeLine; decide, ?_⟩
  exact q n rows bits w' h1 h2 h3 h4 h5
end
end K67
set_option Elab.async false
set_option linter.all false
set_option maxRecDepth 100000
set_option maxHeartbeats 4000000
namespace K67
open PySem PySem.Spec PyProof.Rows L2 DL
open Mat (tab tab_length tab_at trimP mulP Tr T sm)
local macro_rules | `(tactic| walk_at "wd") => `(tactic| first
  | exact Wd.put_same
  | exact Wd.at2 (by assumption)
  | assumption
  | exact Wd.put_of (by assumption) (by assumption)
  | exact Wd.put_of (by assumption) (Wd.put_of (by assumption) (by assumption))
  | fail "no world")
local macro_rules | `(tactic| walk_at "sd") => `(tactic| first
  | with_reducible refine sd_seq ?_
  | with_reducible refine sd_set ?_
  | with_reducible refine sd_asg ?_
  | with_reducible refine gd_name ?_
  | with_reducible refine sd_ret ?_
  | with_reducible refine sd_drop ?_
  | with_reducible refine sd_if ?_
  | with_reducible refine sd_par ?_
  | with_reducible refine sd_next ?_
  | with_reducible refine sd_break ?_
  | with_reducible refine sd_aug rfl ?_
  | fail "no step")
local macro_rules | `(tactic| walk_at "ix") => `(tactic| (with_reducible show OD _ (rIx _) _ _ _ _) <;> first
  | refine od_ix (.tup _) rfl ?_
  | refine od_ix (.lst [_, _, _, _]) rfl ?_
  | (refine od_ix (ds := ?dsx) (d := ?ddx) (.obj ?hx) ?hy ?_; (case hx => walk_at "wd"); (case hy => exact rfl))
  | (refine od_ixLast (.lst _) ?_ ?_; (focus omega))
  | (refine od_ixLast (ns := ?nsx) (.obj ?hx) ?ha ?_; (case hx => walk_at "wd"); (case ha => omega))
  | (refine od_ixI (.lst _) ?_ ?_ ?_; (focus omega); (focus omega))
  | (refine od_ixM (.lst _) ?_ ?_ ?_; (focus omega); (focus omega))
  | (refine od_ixI (ns := ?nsx) (.obj ?hx) ?ha ?hb ?_; (case hx => walk_at "wd"); (case ha => omega); (case hb => omega))
  | (refine od_ixM (rows := ?nsx) (.obj ?hx) ?ha ?hb ?_; (case hx => walk_at "wd"); (case ha => omega); (case hb => omega))
  | fail "no index")
local macro_rules | `(tactic| walk_at "dl") => `(tactic| first
  | walk_at "sd"
  | with_reducible refine xd_int ?_
  | with_reducible refine xd_bl ?_
  | with_reducible refine xd_non ?_
  | with_reducible refine xd_str ?_
  | with_reducible refine xd_ty ?_
  | with_reducible refine xd_op ?_
  | with_reducible refine xd_un ?_
  | with_reducible refine xd_if ?_
  | with_reducible refine xd_tup ?_
  | with_reducible refine xd_cb ?_
  | with_reducible refine xd_call ?_
  | with_reducible refine xd_bm ?_
  | with_reducible refine xd_bm0 ?_
  | (refine And.intro (ty_list (ds := ?dsx) (.obj ?hx)) ?_; (case hx => walk_at "wd"))
  | (refine md_appI (ns := ?nsx) ?hx ?ha ?_; (case hx => walk_at "wd"); (case ha => omega))
  | (refine md_appM (rows := ?nsx) ?hx ?ha ?_; (case hx => walk_at "wd"); (case ha => omega))
  | (refine md_popI (ns := ?nsx) ?hx ?ha ?_; (case hx => walk_at "wd"); (case ha => omega))
  | with_reducible refine ad_nil ?_
  | with_reducible refine ad_cons ?_
  | with_reducible refine td_test ?_
  | with_reducible refine td_B ?_
  | with_reducible refine td_and ?_
  | with_reducible refine td_or ?_
  | with_reducible refine td_not ?_
  | with_reducible refine xd_andV ?_
  | with_reducible refine xd_orV ?_
  | with_reducible refine xd_notV ?_
  | with_reducible refine xd_sliceF ?_
  | with_reducible refine pd_none ?_
  | with_reducible refine pd_some ?_
  | with_reducible refine od_add ?_
  | with_reducible refine od_sub ?_
  | (with_reducible refine od_fdivR ?_ ?_; (focus omega))
  | (with_reducible refine od_modN ?_ ?_; (focus omega))
  | (with_reducible refine od_mulX ?_ ?_; (focus (refine mulB (by assumption) (by assumption) (by omega))))
  | with_reducible refine od_mulX ?_ ?_
  | (with_reducible refine od_mul ?_ ?_; (focus (first | exact Or.inl (by omega) | exact Or.inr (by omega))))
  | with_reducible refine od_lt ?_
  | with_reducible refine od_le ?_
  | with_reducible refine od_gt ?_
  | with_reducible refine od_ge ?_
  | with_reducible refine od_eqI ?_
  | with_reducible refine od_neI ?_
  | (refine od_eqL (.lst _) (.lst _) ?_; (focus skip))
  | (refine od_neL (.lst _) (.lst _) ?_; (focus skip))
  | refine od_isL ?_
  | with_reducible refine ud_neg ?_
  | with_reducible refine id_I ?_
  | refine cd_isi (b := true) (.int _) (by with_unfolding_all rfl) ?_
  | refine cd_isi (b := false) (.int _) (by with_unfolding_all rfl) ?_
  | refine cd_isi (b := true) (.lst _) (by with_unfolding_all rfl) ?_
  | with_reducible refine cd_max2 ?_
  | with_reducible refine cd_abs ?_
  | with_reducible refine cd_int1 ?_
  | with_reducible refine cd_intB ?_
  | refine cd_lenI (.lst _) ?_
  | refine cd_lenM (.lst _) ?_
  | (refine cd_lenI (ns := ?nsx) (.obj ?hx) ?_; (case hx => walk_at "wd"))
  | (refine cd_lenM (rows := ?nsx) (.obj ?hx) ?_; (case hx => walk_at "wd"))
  | refine cd_listF (.lst _) ?_
  | (refine cd_listF (ds := ?dsx) (.obj ?hx) ?_; (case hx => walk_at "wd"))
  | (refine od_catI (.lst _) (.lst _) ?_ ?_; (focus (first | omega | (simp only [List.length_append, List.length_map, tab_length]; omega))))
  | walk_at "ix"
  | with_reducible refine xd_var rfl ?_
  | with_reducible refine And.intro rfl ?_
  | with_reducible refine ⟨_, rfl, ?_⟩
  | with_reducible refine ⟨_, _, rfl, ?_⟩
  | (with_reducible refine And.intro (fun hb => ?_) (fun hb => ?_) <;> (try (exact absurd hb (by decide))) <;> (try simp only [decide_eq_true_eq, decide_eq_false_iff_not, Bool.not_eq_true', Bool.not_eq_false', Bool.true_eq_false, Bool.false_eq_true, Bool.not_eq_true, Bool.not_eq_false, Int.not_lt, Int.not_le] at hb))
  | with_reducible exact rfl
  | fail "no step")
local macro_rules | `(tactic| walk_at "ix") => `(tactic| (with_reducible show OD _ (rIx _) _ (.int (Nat.cast _)) _ _) <;> first
  | (refine od_ixIN (.lst _) ?_ ?_; (focus omega))
  | (refine od_ixMN (.lst _) ?_ ?_; (focus omega))
  | (refine od_ixIN (ns := ?nsx) (.obj ?hx) ?ha ?_; (case hx => walk_at "wd"); (case ha => omega))
  | (refine od_ixMN (rows := ?nsx) (.obj ?hx) ?ha ?_; (case hx => walk_at "wd"); (case ha => omega))
  | fail "no index")
local macro_rules | `(tactic| walk_at "dl") => `(tactic| first
  | (refine od_ixO (by assumption) ?_; (focus skip))
  | (refine od_ixT ?_ ?_; (focus omega))
  | refine cd_lenT ?_
  | refine cd_lenTI ?_
  | refine cd_lenO ?_
  | with_reducible refine xd_chain ?_
  | fail "no step")
local macro_rules | `(tactic| walk_at "ix") => `(tactic| (with_reducible show OD _ (rIx _) _ (.int (Nat.cast _)) _ _) <;> first
  | (refine od_ixIN (.tup _) ?_ ?_; (focus omega))
  | (refine od_ixT ?_ ?_; (focus omega))
  | fail "no index")
/-- a product's numbers -/
theorem sz_mul {n m : Nat} {a b : List Int} (ha : Sz n a) (hb : Sz m b) (hl : a.length ≤ 4) : Sz (n + m + 2) (mulP a b) := fun k => by
  have e : (mulP a b).getD k 0 = (T a * T b) k := by rw [← Mat.mulP_T]; rfl
  rw [e, ← cv_end]
  unfold cv
  rw [if_neg (by omega), Int.add_zero]
  have each : ∀ q, Bt (n + m) (a.getD q 0 * (if q ≤ k then b.getD (k - q) 0 else 0)) := fun q => by
    refine (ha q).mul ?_
    split
    · exact hb _
    · exact Bt.zero
  have main : ∀ (f : Nat → Int) (l : Nat), (∀ q, Bt (n + m) (f q)) → (sm f l).natAbs ≤ l * 2 ^ (n + m) := fun f l h => by
    induction l with
    | zero => show (0 : Int).natAbs ≤ _; simp
    | succ l ih =>
      show (sm f l + f l).natAbs ≤ _
      have h1 := Int.natAbs_add_le (sm f l) (f l)
      have h2 : (f l).natAbs < 2 ^ (n + m) := h l
      rw [Nat.add_mul, Nat.one_mul]
      omega
  have strict : ∀ (f : Nat → Int) (l : Nat), 0 < l → (∀ q, Bt (n + m) (f q)) → (sm f l).natAbs < l * 2 ^ (n + m) := fun f l h0 h => by
    obtain ⟨l, rfl⟩ : ∃ l', l = l' + 1 := ⟨l - 1, by omega⟩
    show (sm f l + f l).natAbs < _
    have h1 := Int.natAbs_add_le (sm f l) (f l)
    have h2 : (f l).natAbs < 2 ^ (n + m) := h l
    have h3 := main f l h
    rw [Nat.add_mul, Nat.one_mul]
    omega
  have p4 : 2 ^ (n + m + 2) = 4 * 2 ^ (n + m) := by
    rw [Nat.pow_add]
    omega
  unfold Bt
  rw [p4]
  by_cases h0 : a.length = 0
  · rw [h0]
    show (0 : Int).natAbs < _
    have := Nat.two_pow_pos (n + m)
    simp
    omega
  · have h1 := strict _ a.length (by omega) each
    have h2 : a.length * 2 ^ (n + m) ≤ 4 * 2 ^ (n + m) := Nat.mul_le_mul_right _ hl
    omega
theorem mulP_comm {a b : List Int} : mulP a b = mulP b a := by
  refine Mat.T_ext ?_ ?_
  · by_cases h : a.length = 0 ∨ b.length = 0
    · rw [Mat.mulP_nil h, Mat.mulP_nil h.symm]
    · rw [Mat.mulP_length (by omega) (by omega), Mat.mulP_length (by omega) (by omega)]
      omega
  · rw [Mat.mulP_T, Mat.mulP_T]
    grind
section
variable {P : Program} {wo : World} {K : PySem.W.Frag} {mg : Str → Option Value} {base : Heap}
theorem ad_pairL {K : PySem.W.Frag} {ρ : DL.Env} {w : Wd} {Q : List Dat → Wd → Prop} {tr : TA} {i j : Nat} {a b : Dat} (hi : ρ[i]? = some (some a)) (hj : ρ[j]? = some (some b)) (h : AD K tr ρ w fun ds w2 => Q (.lst [a, b] :: ds) w2) : AD K (tCons (tLst (tCons (tVar i) (tCons (tVar j) tNil))) tr) ρ w Q :=
  ad_cons (xd_lstF (ad_cons (xd_var hi (ad_cons (xd_var hj (ad_nil ⟨by show 2 ≤ sizeLine; decide, h⟩))))))
/-- the lists that are looked at -/
def GL (l : List Int) : Prop := Tr l ∧ Sz 64 l ∧ l.length ≤ 8
def fs_law : FS := fun ds w Q => ∃ ns : List Int, ds = [.slst (ns.map .int)] ∧ ns.length ≤ 1000 ∧ ∀ w', Q (.bl true) w'
theorem ok_law (G : Bltn mg) (C_law_begin : Cal P wo K mg base 41 "_law_begin" ["script"] fs_begin) (C_law_poly : Cal P wo K mg base 43 "_law_poly" ["d", "least", "most"] fs_poly) (C_law_times : Cal P wo K mg base 42 "_law_times" ["one", "other"] fs_ltimes)
    (C_law_draw : Cal P wo K mg base 41 "_law_draw" ["d", "many"] fs_draw) (C_law_coefficients : Cal P wo K mg base 42 "_law_coefficients" ["d", "many", "reach"] fs_coefs) (C_law_sums_fit : Cal P wo K mg base 43 "_law_sums_fit" ["one", "other"] fs_sums)
    (C_law_primitive_fits : Cal P wo K mg base 43 "_law_primitive_fits" ["row"] fs_pfits) (C_law_gcd_fits : Cal P wo K mg base 45 "_law_gcd_fits" ["one", "other"] fs_gfits) (C_law_quotient_fits : Cal P wo K mg base 44 "_law_quotient_fits" ["one", "other", "due"] fs_qfits)
    (C_law_rare : Cal P wo K mg base 42 "_law_rare" ["d", "many"] fs_rare) (C_law_auto : Cal P wo K mg base 43 "_law_auto" ["d", "letters", "most"] fs_auto) (C_law_charpoly_fits : Cal P wo K mg base 43 "_law_charpoly_fits" ["auto"] fs_cfits)
    {f : Addr} {fd : FuncData} (F : Fun K "law" "law" s_law f fd) : FnOk P wo K mg base CX0 46 f fd ["script"] (spOf K fs_law) := by
  have nd := sc_law.nd
  refine fn_ok F sc_law (fun ds w Q h => ?_) fun cdv A outer s H E hr => ?_
  · obtain ⟨_, rfl, _⟩ := h
    rfl
  refine ⟨_, (pss_cons (ps_set (i := 1) nd rfl (Or.inl rfl) (pe_calK C_law_begin rfl rfl rfl rfl rfl (hr.mono (by decide)) (by rfl) (pa_cons (pv 0) pa_nil)))
  (pss_cons (ps_set (i := 2) nd rfl (Or.inl rfl) (pe_calK C_law_poly rfl rfl rfl rfl rfl (hr.mono (by decide)) (by rfl) (pa_cons (pv 1) (pa_cons pe_int (pa_cons pe_int pa_nil)))))
  (pss_cons (ps_set (i := 3) nd rfl (Or.inl rfl) (pe_calK C_law_times rfl rfl rfl rfl rfl (hr.mono (by decide)) (by rfl) (pa_cons (pv 2) (pa_cons (pe_calK C_law_poly rfl rfl rfl rfl rfl (hr.mono (by decide)) (by rfl) (pa_cons (pv 1) (pa_cons pe_int (pa_cons pe_int pa_nil)))) pa_nil))))
  (pss_cons (ps_if (pt_cmpR op_eq (pe_calK C_law_draw rfl rfl rfl rfl rfl (hr.mono (by decide)) (by rfl) (pa_cons (pv 1) (pa_cons pe_int pa_nil))) pe_int (nomark _)) (pss_one (ps_set (i := 3) nd rfl (Or.inl rfl) (pe_calK C_law_times rfl rfl rfl rfl rfl (hr.mono (by decide)) (by rfl) (pa_cons (pv 2) (pa_cons (pv 3) pa_nil))))) pss_nil)
  (pss_cons (ps_set (i := 4) nd rfl (Or.inl rfl) (pe_calK C_law_times rfl rfl rfl rfl rfl (hr.mono (by decide)) (by rfl) (pa_cons (pv 2) (pa_cons (pe_calK C_law_poly rfl rfl rfl rfl rfl (hr.mono (by decide)) (by rfl) (pa_cons (pv 1) (pa_cons pe_int (pa_cons pe_int pa_nil)))) pa_nil))))
  (pss_cons (ps_set (i := 5) nd rfl (Or.inl rfl) (pe_calK C_law_draw rfl rfl rfl rfl rfl (hr.mono (by decide)) (by rfl) (pa_cons (pv 1) (pa_cons pe_int pa_nil))))
  (pss_cons (ps_if (pt_cmpR op_eq (pv 5) pe_int (nomark _)) (pss_one (ps_set (i := 4) nd rfl (Or.inl rfl) (pe_lst pa_nil))) pss_nil)
  (pss_cons (ps_if (pt_cmpR op_eq (pv 5) pe_int (nomark _)) (pss_one (ps_set (i := 4) nd rfl (Or.inl rfl) (pe_callTy (r := rLstK K) call_list_of (by rfl) G.list_ (by decide +kernel) (pa_cons (pv 3) pa_nil)))) pss_nil)
  (pss_cons (ps_set (i := 6) nd rfl (Or.inl rfl) (pe_calK C_law_poly rfl rfl rfl rfl rfl (hr.mono (by decide)) (by rfl) (pa_cons (pv 1) (pa_cons pe_int (pa_cons pe_int pa_nil)))))
  (pss_cons (ps_set (i := 7) nd rfl (Or.inl rfl) (pe_calK C_law_draw rfl rfl rfl rfl rfl (hr.mono (by decide)) (by rfl) (pa_cons (pv 1) (pa_cons (pe_callB (r := rLenK K) call_len_seq (by rfl) G.len_ PySem.boot_len (pa_cons (pv 3) pa_nil)) pa_nil))))
  (pss_cons (ps_set (i := 8) nd rfl (Or.inl rfl) (pe_op op_cat (pe_calK C_law_coefficients rfl rfl rfl rfl rfl (hr.mono (by decide)) (by rfl) (pa_cons (pv 1) (pa_cons (pv 7) (pa_cons pe_int pa_nil)))) (pe_slice (r := rSlL K) sl_list (pv 3) (po_some (pv 7)) po_none)))
  (pss_cons (ps_for PassesOwn.never rfl (pi_listK (K := K) rfl (pe_lst (pa_cons (pe_lst (pa_cons (pv 3) (pa_cons (pv 4) pa_nil))) (pa_cons (pe_lst (pa_cons (pv 3) (pa_cons (pv 6) pa_nil))) (pa_cons (pe_lst (pa_cons (pv 6) (pa_cons (pv 3) pa_nil))) (pa_cons (pe_lst (pa_cons (pv 3) (pa_cons (pv 8) pa_nil))) (pa_cons (pe_lst (pa_cons (pv 6) (pa_cons (pv 6) pa_nil))) pa_nil))))))) (pg_unl rfl (pgs_cons (pg_name (i := 9) nd rfl (Or.inl rfl)) (pgs_cons (pg_name (i := 10) nd rfl (Or.inl rfl)) pgs_nil))) (pss_one (ps_if (pt_not (pt_val (pe_calK C_law_sums_fit rfl rfl rfl rfl rfl (hr.mono (by decide)) (by rfl) (pa_cons (pv 9) (pa_cons (pv 10) pa_nil))))) (pss_one (ps_ret pe_bl)) pss_nil)))
  (pss_cons (ps_for PassesOwn.never rfl (pi_listK (K := K) rfl (pe_lst (pa_cons (pv 3) (pa_cons (pv 8) (pa_cons (pv 2) pa_nil))))) (pg_name (i := 11) nd rfl (Or.inl rfl)) (pss_one (ps_if (pt_not (pt_val (pe_calK C_law_primitive_fits rfl rfl rfl rfl rfl (hr.mono (by decide)) (by rfl) (pa_cons (pv 11) pa_nil)))) (pss_one (ps_ret pe_bl)) pss_nil)))
  (pss_cons (ps_for PassesOwn.never rfl (pi_listK (K := K) rfl (pe_lst (pa_cons (pe_lst (pa_cons (pv 3) (pa_cons (pv 4) pa_nil))) (pa_cons (pe_lst (pa_cons (pv 4) (pa_cons (pv 3) pa_nil))) (pa_cons (pe_lst (pa_cons (pv 3) (pa_cons (pv 8) pa_nil))) (pa_cons (pe_lst (pa_cons (pv 8) (pa_cons (pv 2) pa_nil))) pa_nil)))))) (pg_unl rfl (pgs_cons (pg_name (i := 9) nd rfl (Or.inl rfl)) (pgs_cons (pg_name (i := 10) nd rfl (Or.inl rfl)) pgs_nil))) (pss_one (ps_if (pt_not (pt_val (pe_calK C_law_gcd_fits rfl rfl rfl rfl rfl (hr.mono (by decide)) (by rfl) (pa_cons (pv 9) (pa_cons (pv 10) pa_nil))))) (pss_one (ps_ret pe_bl)) pss_nil)))
  (pss_cons (ps_if (pt_not (pt_val (pe_calK C_law_quotient_fits rfl rfl rfl rfl rfl (hr.mono (by decide)) (by rfl) (pa_cons (pe_calK C_law_times rfl rfl rfl rfl rfl (hr.mono (by decide)) (by rfl) (pa_cons (pv 3) (pa_cons (pv 6) pa_nil))) (pa_cons (pv 3) (pa_cons (pv 6) pa_nil)))))) (pss_one (ps_ret pe_bl)) pss_nil)
  (pss_cons (ps_set (i := 12) nd rfl (Or.inl rfl) (pe_ix (r := rIx K) ix_seq (pe_lst (pa_cons pe_str (pa_cons pe_str (pa_cons pe_str (pa_cons pe_str (pa_cons pe_str (pa_cons pe_str pa_nil))))))) (pe_calK C_law_draw rfl rfl rfl rfl rfl (hr.mono (by decide)) (by rfl) (pa_cons (pv 1) (pa_cons pe_int pa_nil))) (fun _ _ => rfl)))
  (pss_one (ps_ret (pe_calK C_law_charpoly_fits rfl rfl rfl rfl rfl (hr.mono (by decide)) (by rfl) (pa_cons (pe_calK C_law_auto rfl rfl rfl rfl rfl (hr.mono (by decide)) (by rfl) (pa_cons (pv 1) (pa_cons (pv 12) (pa_cons (pe_ifExp (pt_val (pe_calK C_law_rare rfl rfl rfl rfl rfl (hr.mono (by decide)) (by rfl) (pa_cons (pv 1) (pa_cons pe_int pa_nil)))) pe_int pe_int) pa_nil)))) pa_nil)))))))))))))))))))), ?_⟩
  try dsimp only [cxOf, L2.Cx.nox, L2.Cx.wish, L2.Cx.blk]
  rintro ds w R ⟨ns, rfl, hl, q⟩
  repeat' walk_at "dl"
  refine ⟨ns, rfl, hl, fun pd w1 hpd h1 => ?_⟩
  repeat' walk_at "dl"
  refine ⟨pd, 1, 3, rfl, by omega, by omega, h1.1, fun cm w2 c1 c2 c3 c4 h2 => ?_⟩
  repeat' walk_at "dl"
  refine ⟨pd, 1, 4, rfl, by omega, by omega, h2.1, fun p1 w3 p1a p1b p1c p1d h3 => ?_⟩
  repeat' walk_at "dl"
  refine ⟨20, cm, p1, rfl, by omega, c4, p1d, by omega, by omega, ?_⟩
  have o1l : (mulP cm p1).length = cm.length + p1.length - 1 := Mat.mulP_length (by omega) (by omega)
  have o1t := Mat.mulP_Tr c3 p1c
  have o1s := sz_mul c4 p1d (by omega)
  generalize mulP cm p1 = o1 at *
  have o1s : Sz 42 o1 := o1s
  -- perhaps once more
  refine sd_cut (fun ρ' w' => ∃ on : List Int, ρ' = [some (.slst (ns.map .int)), some (.obj pd), some (dI cm), some (dI on), none, none, none, none, none, none, none, none, none] ∧ Sd pd w' ∧ 0 < on.length ∧ GL on) ?_ ?_
  · repeat' walk_at "dl"
    refine ⟨pd, 4, rfl, by omega, h3.1, fun r w4 _ _ h4 => ?_⟩
    repeat' walk_at "dl"
    · refine ⟨42, cm, o1, rfl, by omega, c4.mono (by omega), o1s, by omega, by omega, ?_⟩
      have e := Mat.mulP_length (a := cm) (b := o1) (by omega) (by omega)
      exact ⟨mulP cm o1, rfl, h4.1, by omega, Mat.mulP_Tr c3 o1t, (sz_mul c4 o1s (by omega)).mono (by omega), by omega⟩
    · exact ⟨h4.1, by omega, o1t, o1s.mono (by omega), by omega⟩
  rintro ρ' w4 ⟨on, rfl, hs4, on0, gon⟩
  repeat' walk_at "dl"
  refine ⟨pd, 1, 4, rfl, by omega, by omega, hs4, fun p2 w5 p2a p2b p2c p2d h5 => ?_⟩
  repeat' walk_at "dl"
  refine ⟨20, cm, p2, rfl, by omega, c4, p2d, by omega, by omega, ?_⟩
  have o2l : (mulP cm p2).length = cm.length + p2.length - 1 := Mat.mulP_length (by omega) (by omega)
  have go2 : GL (mulP cm p2) := ⟨Mat.mulP_Tr c3 p2c, (sz_mul c4 p2d (by omega)).mono (by omega), by omega⟩
  generalize mulP cm p2 = o2 at *
  repeat' walk_at "dl"
  refine ⟨pd, 8, rfl, by omega, h5.1, fun way w6 _ _ h6 => ?_⟩
  refine sd_cut (fun ρ' w' => ∃ ot : List Int, ρ' = [some (.slst (ns.map .int)), some (.obj pd), some (dI cm), some (dI on), some (dI ot), some (.int way), none, none, none, none, none, none, none] ∧ w' = w6 ∧ GL ot) ?_ ?_
  · repeat' walk_at "dl"
    · refine xd_lstE ?_
      exact ⟨[], rfl, rfl, Mat.Tr_nil, fun k => Bt.zero, Nat.zero_le _⟩
    · exact go2
  rintro ρ' w7 ⟨ot, rfl, rfl, got⟩
  refine sd_cut (fun ρ' w' => ∃ ot : List Int, ρ' = [some (.slst (ns.map .int)), some (.obj pd), some (dI cm), some (dI on), some (dI ot), some (.int way), none, none, none, none, none, none, none] ∧ w' = w7 ∧ GL ot) ?_ ?_
  · repeat' walk_at "dl"
    · exact gon
    · exact got
  clear got
  rintro ρ' w8 ⟨ot, rfl, rfl, got⟩
  repeat' walk_at "dl"
  refine ⟨pd, 0, 6, rfl, by omega, by omega, h6.1, fun ex w9 _ exb exc exd h9 => ?_⟩
  have gex : GL ex := ⟨exc, exd.mono (by omega), by omega⟩
  repeat' walk_at "dl"
  refine ⟨pd, on.length, rfl, by omega, h9.1, fun r w10 r1 r2 h10 => ?_⟩
  obtain ⟨c, hc⟩ : ∃ c : Nat, r = c := ⟨r.toNat, by omega⟩
  subst hc
  have onl := gon.2.2
  repeat' walk_at "dl"
  refine ⟨pd, c, 3, rfl, by omega, by omega, h10.1, fun p L w11 k1 k2 k3 k4 k5 k6 => ?_⟩
  repeat' walk_at "dl"
  refine ⟨_, .lst _, ?_⟩
  rw [cutI_from (by omega)]
  have hLd : (L ++ on.drop c).length = on.length := by rw [List.length_append, List.length_drop]; omega
  have hLg : ∀ k, (L ++ on.drop c).getD k 0 = if k < c then L.getD k 0 else on.getD k 0 := fun k => by
    rw [List.getD_eq_getElem?_getD]
    by_cases h : k < c
    · rw [if_pos h, List.getElem?_append_left (by omega), List.getD_eq_getElem?_getD]
    · rw [if_neg h, List.getElem?_append_right (by omega), List.getElem?_drop, List.getD_eq_getElem?_getD, show c + (k - L.length) = k by omega]
  refine od_catI (ns := L) (ms := on.drop c) (.obj k2) (.lst _) (by rw [List.length_drop]; omega) ?_
  generalize hne : L ++ on.drop c = ne at *
  have gne : GL ne := by
    refine ⟨fun h => ?_, fun k => ?_, by omega⟩
    · rw [hLd, hLg, if_neg (by omega)]
      exact gon.1 on0
    · rw [hLg]
      split
      · have e : ∀ x ∈ L, Bt 64 x := fun x hx => by
          have := k4 x hx
          have e : (2 : Nat) ^ 64 = 18446744073709551616 := by decide
          show x.natAbs < 2 ^ 64
          omega
        exact Sz.of e k
      · exact gon.2.1 k
  have gcm : GL cm := ⟨c3, c4.mono (by omega), by omega⟩
  have cm0 : 0 < cm.length := by omega
  have ne0 : 0 < ne.length := by omega
  repeat' walk_at "dl"
  refine sd_to (fun ρ' w' => ∃ o9 o10 : Option Dat, ρ' = [some (.slst (ns.map .int)), some (.obj pd), some (dI cm), some (dI on), some (dI ot), some (.int way), some (dI ex), some (.int c), some (dI ne), o9, o10, none, none] ∧ w' = w11) ?_ ?_
  · refine sd_forL ?_
    refine xd_lstF (ad_pairL rfl rfl (ad_pairL rfl rfl (ad_pairL rfl rfl (ad_pairL rfl rfl (ad_pairL rfl rfl (ad_nil ⟨by show 5 ≤ sizeLine; decide, ?_⟩))))))
    refine ⟨_, .lst _, fun i ρ' w' => ∃ o9 o10 : Option Dat, ρ' = [some (.slst (ns.map .int)), some (.obj pd), some (dI cm), some (dI on), some (dI ot), some (.int way), some (dI ex), some (.int c), some (dI ne), o9, o10, none, none] ∧ w' = w11, ⟨none, none, rfl, rfl⟩, ?_, fun _ _ h => h⟩
    rintro i x ρ' w' hx ⟨o9, o10, rfl, rfl⟩
    have hx := List.mem_of_getElem? hx
    have hg : ∃ a b, x = .lst [dI a, dI b] ∧ GL a ∧ GL b := by
      simp only [List.mem_cons, List.not_mem_nil, or_false] at hx
      rcases hx with rfl | rfl | rfl | rfl | rfl <;> exact ⟨_, _, rfl, by assumption, by assumption⟩
    obtain ⟨a, b, rfl, ga, gb⟩ := hg
    refine gd_unl2 (.lst _) ?_
    repeat' walk_at "dl"
    have gal := ga.2.2
    have gbl := gb.2.2
    refine ⟨64, a, b, rfl, by omega, ga.2.1, gb.2.1, by omega, by omega, ga.1, gb.1, ?_⟩
    repeat' walk_at "dl"
  rintro ρ' w12 ⟨o9, o10, rfl, rfl⟩
  refine sd_cut (fun ρ' w' => ∃ o11 : Option Dat, ρ' = [some (.slst (ns.map .int)), some (.obj pd), some (dI cm), some (dI on), some (dI ot), some (.int way), some (dI ex), some (.int c), some (dI ne), o9, o10, o11, none] ∧ w' = w12) ?_ ?_
  · refine sd_forL ?_
    refine xd_lstF (ad_cons (xd_var rfl (ad_cons (xd_var rfl (ad_cons (xd_var rfl (ad_nil ⟨by show 3 ≤ sizeLine; decide, ?_⟩)))))))
    refine ⟨_, .lst _, fun i ρ' w' => ∃ o11 : Option Dat, ρ' = [some (.slst (ns.map .int)), some (.obj pd), some (dI cm), some (dI on), some (dI ot), some (.int way), some (dI ex), some (.int c), some (dI ne), o9, o10, o11, none] ∧ w' = w12, ⟨none, rfl, rfl⟩, ?_, fun _ _ h => h⟩
    rintro i x ρ' w' hx ⟨o11, rfl, rfl⟩
    have hx := List.mem_of_getElem? hx
    have hg : ∃ a, x = dI a ∧ GL a ∧ 0 < a.length := by
      simp only [List.mem_cons, List.not_mem_nil, or_false] at hx
      rcases hx with rfl | rfl | rfl <;> exact ⟨_, rfl, by assumption, by assumption⟩
    obtain ⟨a, rfl, ga, ga0⟩ := hg
    have gal := ga.2.2
    repeat' walk_at "dl"
    refine ⟨64, a, rfl, by omega, ga.2.1, by omega, ga0, ga.1, ?_⟩
    repeat' walk_at "dl"
  rintro ρ' w13 ⟨o11, rfl, rfl⟩
  refine sd_cut (fun ρ' w' => ∃ o9 o10 : Option Dat, ρ' = [some (.slst (ns.map .int)), some (.obj pd), some (dI cm), some (dI on), some (dI ot), some (.int way), some (dI ex), some (.int c), some (dI ne), o9, o10, o11, none] ∧ w' = w13) ?_ ?_
  · refine sd_forL ?_
    refine xd_lstF (ad_pairL rfl rfl (ad_pairL rfl rfl (ad_pairL rfl rfl (ad_pairL rfl rfl (ad_nil ⟨by show 4 ≤ sizeLine; decide, ?_⟩)))))
    refine ⟨_, .lst _, fun i ρ' w' => ∃ o9 o10 : Option Dat, ρ' = [some (.slst (ns.map .int)), some (.obj pd), some (dI cm), some (dI on), some (dI ot), some (.int way), some (dI ex), some (.int c), some (dI ne), o9, o10, o11, none] ∧ w' = w13, ⟨o9, o10, rfl, rfl⟩, ?_, fun _ _ h => h⟩
    rintro i x ρ' w' hx ⟨o9, o10, rfl, rfl⟩
    have hx := List.mem_of_getElem? hx
    have hg : ∃ a b, x = .lst [dI a, dI b] ∧ GL a ∧ GL b ∧ (0 < a.length ∨ 0 < b.length) := by
      simp only [List.mem_cons, List.not_mem_nil, or_false] at hx
      rcases hx with rfl | rfl | rfl | rfl <;> exact ⟨_, _, rfl, by assumption, by assumption, by omega⟩
    obtain ⟨a, b, rfl, ga, gb, g0⟩ := hg
    refine gd_unl2 (.lst _) ?_
    repeat' walk_at "dl"
    refine ⟨a, b, rfl, ga.2.1, gb.2.1, ga.1, gb.1, ga.2.2, gb.2.2, g0, ?_⟩
    repeat' walk_at "dl"
  clear o9 o10
  rintro ρ' w14 ⟨o9, o10, rfl, rfl⟩
  have exl := gex.2.2
  repeat' walk_at "dl"
  refine ⟨64, on, ex, rfl, by omega, gon.2.1, gex.2.1, by omega, by omega, ?_⟩
  repeat' walk_at "dl"
  refine ⟨64, 64, ex, on, by rw [mulP_comm], gex.1, gon.1, on0, by omega, by omega, gex.2.1, gon.2.1, by omega, ?_⟩
  repeat' walk_at "dl"
  refine xd_lstF ?_
  repeat' walk_at "dl"
  refine ⟨by show 6 ≤ sizeLine; decide, ?_⟩
  repeat' walk_at "dl"
  refine ⟨pd, 6, rfl, by omega, k5, fun r w15 r1 r2 h15 => ?_⟩
  have hl6 : ∃ x : Str, atI [Dat.str "ab", Dat.str "abc", Dat.str "a", Dat.str "ab", Dat.str "bc", Dat.str "acmz"] r = some (.str x) ∧ x.cps.size ≤ 4 := by
    rcases (show r = 0 ∨ r = 1 ∨ r = 2 ∨ r = 3 ∨ r = 4 ∨ r = 5 by omega) with rfl | rfl | rfl | rfl | rfl | rfl <;> exact ⟨_, rfl, by decide +kernel⟩
  obtain ⟨x, hx, hx4⟩ := hl6
  refine od_ix (.lst _) hx ?_
  repeat' walk_at "dl"
  refine ⟨pd, 8, rfl, by omega, h15.1, fun b w16 h16 => ?_⟩
  repeat' walk_at "dl"
  · refine ⟨pd, x, 9, rfl, hx4, by omega, by omega, h16.1, fun n rows bits w17 e1 e2 e3 e4 e5 => ?_⟩
    repeat' walk_at "dl"
    exact ⟨n, x, rows, bits, rfl, e1, by omega, e3, e4, q _⟩
  · refine ⟨pd, x, 5, rfl, hx4, by omega, by omega, h16.1, fun n rows bits w17 e1 e2 e3 e4 e5 => ?_⟩
    repeat' walk_at "dl"
    exact ⟨n, x, rows, bits, rfl, e1, by omega, e3, e4, q _⟩
end
end K67
set_option Elab.async false
set_option linter.all false
set_option maxRecDepth 100000
set_option maxHeartbeats 4000000
namespace K67
open PySem PySem.Spec PyProof.Rows L2 DL
/-! ### what the top has written; the law's own head -/
theorem kn_mk {K : PySem.W.Frag} {h : Heap} {mg : Str → Option Value} {x : Str} {st : Stmt} {ps : List Str} {f : Addr} {fd : FuncData} (X : K.In h) (G : h.Ns mainGlobals mg) (a : PySem.W.nsIn K mainGlobals x = some (some (.ref f))) (F : Fun K x x st f fd) (b : Binds K fd ps []) : Kn K mg x st ps := ⟨f, fd, F, b, PySem.W.mg_of X G a⟩
theorem all_mk {l : PySem.W.OpenLaw} (hT : l.prog.given.tree = none) {w : World} {K : PySem.W.Frag} {h : Heap} {mg : Str → Option Value} {fa : Addr} (X : K.In h) (G : h.Ns mainGlobals mg) (hfa : mg "law" = some (.ref fa))
    {f0 : Addr} {od0 an0 : Option Addr} {sl0 : Array (Option Value)} {oc0 kV0 dc0 pm0 cd0 ct0 : Value}
    {f1 : Addr} {od1 an1 : Option Addr} {sl1 : Array (Option Value)} {oc1 kV1 dc1 pm1 cd1 ct1 : Value}
    {f2 : Addr} {od2 an2 : Option Addr} {sl2 : Array (Option Value)} {oc2 kV2 dc2 pm2 cd2 ct2 : Value}
    {f3 : Addr} {od3 an3 : Option Addr} {sl3 : Array (Option Value)} {oc3 kV3 dc3 pm3 cd3 ct3 : Value}
    {f4 : Addr} {od4 an4 : Option Addr} {sl4 : Array (Option Value)} {oc4 kV4 dc4 pm4 cd4 ct4 : Value}
    {f5 : Addr} {od5 an5 : Option Addr} {sl5 : Array (Option Value)} {oc5 kV5 dc5 pm5 cd5 ct5 : Value}
    {f6 : Addr} {od6 an6 : Option Addr} {sl6 : Array (Option Value)} {oc6 kV6 dc6 pm6 cd6 ct6 : Value}
    {f7 : Addr} {od7 an7 : Option Addr} {sl7 : Array (Option Value)} {oc7 kV7 dc7 pm7 cd7 ct7 : Value}
    {f8 : Addr} {od8 an8 : Option Addr} {sl8 : Array (Option Value)} {oc8 kV8 dc8 pm8 cd8 ct8 : Value}
    {f9 : Addr} {od9 an9 : Option Addr} {sl9 : Array (Option Value)} {oc9 kV9 dc9 pm9 cd9 ct9 : Value}
    {f10 : Addr} {od10 an10 : Option Addr} {sl10 : Array (Option Value)} {oc10 kV10 dc10 pm10 cd10 ct10 : Value}
    {f11 : Addr} {od11 an11 : Option Addr} {sl11 : Array (Option Value)} {oc11 kV11 dc11 pm11 cd11 ct11 : Value}
    {f12 : Addr} {od12 an12 : Option Addr} {sl12 : Array (Option Value)} {oc12 kV12 dc12 pm12 cd12 ct12 : Value}
    {f13 : Addr} {od13 an13 : Option Addr} {sl13 : Array (Option Value)} {oc13 kV13 dc13 pm13 cd13 ct13 : Value}
    {f14 : Addr} {od14 an14 : Option Addr} {sl14 : Array (Option Value)} {oc14 kV14 dc14 pm14 cd14 ct14 : Value}
    {f15 : Addr} {od15 an15 : Option Addr} {sl15 : Array (Option Value)} {oc15 kV15 dc15 pm15 cd15 ct15 : Value}
    {f16 : Addr} {od16 an16 : Option Addr} {sl16 : Array (Option Value)} {oc16 kV16 dc16 pm16 cd16 ct16 : Value}
    {f17 : Addr} {od17 an17 : Option Addr} {sl17 : Array (Option Value)} {oc17 kV17 dc17 pm17 cd17 ct17 : Value}
    {f18 : Addr} {od18 an18 : Option Addr} {sl18 : Array (Option Value)} {oc18 kV18 dc18 pm18 cd18 ct18 : Value}
    {f19 : Addr} {od19 an19 : Option Addr} {sl19 : Array (Option Value)} {oc19 kV19 dc19 pm19 cd19 ct19 : Value}
    {f20 : Addr} {od20 an20 : Option Addr} {sl20 : Array (Option Value)} {oc20 kV20 dc20 pm20 cd20 ct20 : Value}
    {f21 : Addr} {od21 an21 : Option Addr} {sl21 : Array (Option Value)} {oc21 kV21 dc21 pm21 cd21 ct21 : Value}
    {f22 : Addr} {od22 an22 : Option Addr} {sl22 : Array (Option Value)} {oc22 kV22 dc22 pm22 cd22 ct22 : Value}
    {f23 : Addr} {od23 an23 : Option Addr} {sl23 : Array (Option Value)} {oc23 kV23 dc23 pm23 cd23 ct23 : Value}
    {f24 : Addr} {od24 an24 : Option Addr} {sl24 : Array (Option Value)} {oc24 kV24 dc24 pm24 cd24 ct24 : Value}
    {f25 : Addr} {od25 an25 : Option Addr} {sl25 : Array (Option Value)} {oc25 kV25 dc25 pm25 cd25 ct25 : Value}
    {f26 : Addr} {od26 an26 : Option Addr} {sl26 : Array (Option Value)} {oc26 kV26 dc26 pm26 cd26 ct26 : Value}
    {f27 : Addr} {od27 an27 : Option Addr} {sl27 : Array (Option Value)} {oc27 kV27 dc27 pm27 cd27 ct27 : Value}
    {f28 : Addr} {od28 an28 : Option Addr} {sl28 : Array (Option Value)} {oc28 kV28 dc28 pm28 cd28 ct28 : Value}
    {f29 : Addr} {od29 an29 : Option Addr} {sl29 : Array (Option Value)} {oc29 kV29 dc29 pm29 cd29 ct29 : Value}
    {f30 : Addr} {od30 an30 : Option Addr} {sl30 : Array (Option Value)} {oc30 kV30 dc30 pm30 cd30 ct30 : Value}
    {f31 : Addr} {od31 an31 : Option Addr} {sl31 : Array (Option Value)} {oc31 kV31 dc31 pm31 cd31 ct31 : Value}
    {f32 : Addr} {od32 an32 : Option Addr} {sl32 : Array (Option Value)} {oc32 kV32 dc32 pm32 cd32 ct32 : Value}
    {f33 : Addr} {od33 an33 : Option Addr} {sl33 : Array (Option Value)} {oc33 kV33 dc33 pm33 cd33 ct33 : Value}
    {f34 : Addr} {od34 an34 : Option Addr} {sl34 : Array (Option Value)} {oc34 kV34 dc34 pm34 cd34 ct34 : Value}
    (a0 : PySem.W.nsIn K mainGlobals "_law_begin" = some (some (.ref f0))) (l0 : K.lookup f0 = some ⟨oc0, od0, .func (PySem.W.fnOf "_law_begin" "_law_begin" (defArgs s_law_begin) (defBody s_law_begin) (defScope s_law_begin) .none kV0 dc0 pm0 an0 cd0 ct0), sl0⟩) (c0 : PySem.W.codeIn K cd0 "_law_begin" = true) (k0 : PySem.W.keepIn K (.ref f0) = true)
    (a1 : PySem.W.nsIn K mainGlobals "_law_draw" = some (some (.ref f1))) (l1 : K.lookup f1 = some ⟨oc1, od1, .func (PySem.W.fnOf "_law_draw" "_law_draw" (defArgs s_law_draw) (defBody s_law_draw) (defScope s_law_draw) .none kV1 dc1 pm1 an1 cd1 ct1), sl1⟩) (c1 : PySem.W.codeIn K cd1 "_law_draw" = true) (k1 : PySem.W.keepIn K (.ref f1) = true)
    (a2 : PySem.W.nsIn K mainGlobals "_law_coefficients" = some (some (.ref f2))) (l2 : K.lookup f2 = some ⟨oc2, od2, .func (PySem.W.fnOf "_law_coefficients" "_law_coefficients" (defArgs s_law_coefficients) (defBody s_law_coefficients) (defScope s_law_coefficients) .none kV2 dc2 pm2 an2 cd2 ct2), sl2⟩) (c2 : PySem.W.codeIn K cd2 "_law_coefficients" = true) (k2 : PySem.W.keepIn K (.ref f2) = true)
    (a3 : PySem.W.nsIn K mainGlobals "_law_poly" = some (some (.ref f3))) (l3 : K.lookup f3 = some ⟨oc3, od3, .func (PySem.W.fnOf "_law_poly" "_law_poly" (defArgs s_law_poly) (defBody s_law_poly) (defScope s_law_poly) .none kV3 dc3 pm3 an3 cd3 ct3), sl3⟩) (c3 : PySem.W.codeIn K cd3 "_law_poly" = true) (k3 : PySem.W.keepIn K (.ref f3) = true)
    (a4 : PySem.W.nsIn K mainGlobals "_law_times" = some (some (.ref f4))) (l4 : K.lookup f4 = some ⟨oc4, od4, .func (PySem.W.fnOf "_law_times" "_law_times" (defArgs s_law_times) (defBody s_law_times) (defScope s_law_times) .none kV4 dc4 pm4 an4 cd4 ct4), sl4⟩) (c4 : PySem.W.codeIn K cd4 "_law_times" = true) (k4 : PySem.W.keepIn K (.ref f4) = true)
    (a5 : PySem.W.nsIn K mainGlobals "trim_poly" = some (some (.ref f5))) (l5 : K.lookup f5 = some ⟨oc5, od5, .func (PySem.W.fnOf "trim_poly" "trim_poly" (defArgs s_trim_poly) (defBody s_trim_poly) (defScope s_trim_poly) .none kV5 dc5 pm5 an5 cd5 ct5), sl5⟩) (c5 : PySem.W.codeIn K cd5 "trim_poly" = true) (k5 : PySem.W.keepIn K (.ref f5) = true)
    (a6 : PySem.W.nsIn K mainGlobals "poly_times" = some (some (.ref f6))) (l6 : K.lookup f6 = some ⟨oc6, od6, .func (PySem.W.fnOf "poly_times" "poly_times" (defArgs s_poly_times) (defBody s_poly_times) (defScope s_poly_times) .none kV6 dc6 pm6 an6 cd6 ct6), sl6⟩) (c6 : PySem.W.codeIn K cd6 "poly_times" = true) (k6 : PySem.W.keepIn K (.ref f6) = true)
    (a7 : PySem.W.nsIn K mainGlobals "_law_is_int" = some (some (.ref f7))) (l7 : K.lookup f7 = some ⟨oc7, od7, .func (PySem.W.fnOf "_law_is_int" "_law_is_int" (defArgs s_law_is_int) (defBody s_law_is_int) (defScope s_law_is_int) .none kV7 dc7 pm7 an7 cd7 ct7), sl7⟩) (c7 : PySem.W.codeIn K cd7 "_law_is_int" = true) (k7 : PySem.W.keepIn K (.ref f7) = true)
    (a8 : PySem.W.nsIn K mainGlobals "_law_is_poly" = some (some (.ref f8))) (l8 : K.lookup f8 = some ⟨oc8, od8, .func (PySem.W.fnOf "_law_is_poly" "_law_is_poly" (defArgs s_law_is_poly) (defBody s_law_is_poly) (defScope s_law_is_poly) .none kV8 dc8 pm8 an8 cd8 ct8), sl8⟩) (c8 : PySem.W.codeIn K cd8 "_law_is_poly" = true) (k8 : PySem.W.keepIn K (.ref f8) = true)
    (a9 : PySem.W.nsIn K mainGlobals "poly_minus" = some (some (.ref f9))) (l9 : K.lookup f9 = some ⟨oc9, od9, .func (PySem.W.fnOf "poly_minus" "poly_minus" (defArgs s_poly_minus) (defBody s_poly_minus) (defScope s_poly_minus) .none kV9 dc9 pm9 an9 cd9 ct9), sl9⟩) (c9 : PySem.W.codeIn K cd9 "poly_minus" = true) (k9 : PySem.W.keepIn K (.ref f9) = true)
    (a10 : PySem.W.nsIn K mainGlobals "_law_minus" = some (some (.ref f10))) (l10 : K.lookup f10 = some ⟨oc10, od10, .func (PySem.W.fnOf "_law_minus" "_law_minus" (defArgs s_law_minus) (defBody s_law_minus) (defScope s_law_minus) .none kV10 dc10 pm10 an10 cd10 ct10), sl10⟩) (c10 : PySem.W.codeIn K cd10 "_law_minus" = true) (k10 : PySem.W.keepIn K (.ref f10) = true)
    (a11 : PySem.W.nsIn K mainGlobals "_law_sums_fit" = some (some (.ref f11))) (l11 : K.lookup f11 = some ⟨oc11, od11, .func (PySem.W.fnOf "_law_sums_fit" "_law_sums_fit" (defArgs s_law_sums_fit) (defBody s_law_sums_fit) (defScope s_law_sums_fit) .none kV11 dc11 pm11 an11 cd11 ct11), sl11⟩) (c11 : PySem.W.codeIn K cd11 "_law_sums_fit" = true) (k11 : PySem.W.keepIn K (.ref f11) = true)
    (a12 : PySem.W.nsIn K mainGlobals "gcd_of" = some (some (.ref f12))) (l12 : K.lookup f12 = some ⟨oc12, od12, .func (PySem.W.fnOf "gcd_of" "gcd_of" (defArgs s_gcd_of) (defBody s_gcd_of) (defScope s_gcd_of) .none kV12 dc12 pm12 an12 cd12 ct12), sl12⟩) (c12 : PySem.W.codeIn K cd12 "gcd_of" = true) (k12 : PySem.W.keepIn K (.ref f12) = true)
    (a13 : PySem.W.nsIn K mainGlobals "primitive_part" = some (some (.ref f13))) (l13 : K.lookup f13 = some ⟨oc13, od13, .func (PySem.W.fnOf "primitive_part" "primitive_part" (defArgs s_primitive_part) (defBody s_primitive_part) (defScope s_primitive_part) .none kV13 dc13 pm13 an13 cd13 ct13), sl13⟩) (c13 : PySem.W.codeIn K cd13 "primitive_part" = true) (k13 : PySem.W.keepIn K (.ref f13) = true)
    (a14 : PySem.W.nsIn K mainGlobals "_law_common" = some (some (.ref f14))) (l14 : K.lookup f14 = some ⟨oc14, od14, .func (PySem.W.fnOf "_law_common" "_law_common" (defArgs s_law_common) (defBody s_law_common) (defScope s_law_common) .none kV14 dc14 pm14 an14 cd14 ct14), sl14⟩) (c14 : PySem.W.codeIn K cd14 "_law_common" = true) (k14 : PySem.W.keepIn K (.ref f14) = true)
    (a15 : PySem.W.nsIn K mainGlobals "_law_primitive" = some (some (.ref f15))) (l15 : K.lookup f15 = some ⟨oc15, od15, .func (PySem.W.fnOf "_law_primitive" "_law_primitive" (defArgs s_law_primitive) (defBody s_law_primitive) (defScope s_law_primitive) .none kV15 dc15 pm15 an15 cd15 ct15), sl15⟩) (c15 : PySem.W.codeIn K cd15 "_law_primitive" = true) (k15 : PySem.W.keepIn K (.ref f15) = true)
    (a16 : PySem.W.nsIn K mainGlobals "_law_primitive_fits" = some (some (.ref f16))) (l16 : K.lookup f16 = some ⟨oc16, od16, .func (PySem.W.fnOf "_law_primitive_fits" "_law_primitive_fits" (defArgs s_law_primitive_fits) (defBody s_law_primitive_fits) (defScope s_law_primitive_fits) .none kV16 dc16 pm16 an16 cd16 ct16), sl16⟩) (c16 : PySem.W.codeIn K cd16 "_law_primitive_fits" = true) (k16 : PySem.W.keepIn K (.ref f16) = true)
    (a17 : PySem.W.nsIn K mainGlobals "pseudo_remainder" = some (some (.ref f17))) (l17 : K.lookup f17 = some ⟨oc17, od17, .func (PySem.W.fnOf "pseudo_remainder" "pseudo_remainder" (defArgs s_pseudo_remainder) (defBody s_pseudo_remainder) (defScope s_pseudo_remainder) .none kV17 dc17 pm17 an17 cd17 ct17), sl17⟩) (c17 : PySem.W.codeIn K cd17 "pseudo_remainder" = true) (k17 : PySem.W.keepIn K (.ref f17) = true)
    (a18 : PySem.W.nsIn K mainGlobals "poly_gcd" = some (some (.ref f18))) (l18 : K.lookup f18 = some ⟨oc18, od18, .func (PySem.W.fnOf "poly_gcd" "poly_gcd" (defArgs s_poly_gcd) (defBody s_poly_gcd) (defScope s_poly_gcd) .none kV18 dc18 pm18 an18 cd18 ct18), sl18⟩) (c18 : PySem.W.codeIn K cd18 "poly_gcd" = true) (k18 : PySem.W.keepIn K (.ref f18) = true)
    (a19 : PySem.W.nsIn K mainGlobals "_law_quotient" = some (some (.ref f19))) (l19 : K.lookup f19 = some ⟨oc19, od19, .func (PySem.W.fnOf "_law_quotient" "_law_quotient" (defArgs s_law_quotient) (defBody s_law_quotient) (defScope s_law_quotient) .none kV19 dc19 pm19 an19 cd19 ct19), sl19⟩) (c19 : PySem.W.codeIn K cd19 "_law_quotient" = true) (k19 : PySem.W.keepIn K (.ref f19) = true)
    (a20 : PySem.W.nsIn K mainGlobals "_law_determinant" = some (some (.ref f20))) (l20 : K.lookup f20 = some ⟨oc20, od20, .func (PySem.W.fnOf "_law_determinant" "_law_determinant" (defArgs s_law_determinant) (defBody s_law_determinant) (defScope s_law_determinant) .none kV20 dc20 pm20 an20 cd20 ct20), sl20⟩) (c20 : PySem.W.codeIn K cd20 "_law_determinant" = true) (k20 : PySem.W.keepIn K (.ref f20) = true)
    (a21 : PySem.W.nsIn K mainGlobals "_law_resultant" = some (some (.ref f21))) (l21 : K.lookup f21 = some ⟨oc21, od21, .func (PySem.W.fnOf "_law_resultant" "_law_resultant" (defArgs s_law_resultant) (defBody s_law_resultant) (defScope s_law_resultant) .none kV21 dc21 pm21 an21 cd21 ct21), sl21⟩) (c21 : PySem.W.codeIn K cd21 "_law_resultant" = true) (k21 : PySem.W.keepIn K (.ref f21) = true)
    (a22 : PySem.W.nsIn K mainGlobals "poly_quotient" = some (some (.ref f22))) (l22 : K.lookup f22 = some ⟨oc22, od22, .func (PySem.W.fnOf "poly_quotient" "poly_quotient" (defArgs s_poly_quotient) (defBody s_poly_quotient) (defScope s_poly_quotient) .none kV22 dc22 pm22 an22 cd22 ct22), sl22⟩) (c22 : PySem.W.codeIn K cd22 "poly_quotient" = true) (k22 : PySem.W.keepIn K (.ref f22) = true)
    (a23 : PySem.W.nsIn K mainGlobals "_law_quotient_fits" = some (some (.ref f23))) (l23 : K.lookup f23 = some ⟨oc23, od23, .func (PySem.W.fnOf "_law_quotient_fits" "_law_quotient_fits" (defArgs s_law_quotient_fits) (defBody s_law_quotient_fits) (defScope s_law_quotient_fits) .none kV23 dc23 pm23 an23 cd23 ct23), sl23⟩) (c23 : PySem.W.codeIn K cd23 "_law_quotient_fits" = true) (k23 : PySem.W.keepIn K (.ref f23) = true)
    (a24 : PySem.W.nsIn K mainGlobals "_law_gcd_fits" = some (some (.ref f24))) (l24 : K.lookup f24 = some ⟨oc24, od24, .func (PySem.W.fnOf "_law_gcd_fits" "_law_gcd_fits" (defArgs s_law_gcd_fits) (defBody s_law_gcd_fits) (defScope s_law_gcd_fits) .none kV24 dc24 pm24 an24 cd24 ct24), sl24⟩) (c24 : PySem.W.codeIn K cd24 "_law_gcd_fits" = true) (k24 : PySem.W.keepIn K (.ref f24) = true)
    (a25 : PySem.W.nsIn K mainGlobals "_law_rare" = some (some (.ref f25))) (l25 : K.lookup f25 = some ⟨oc25, od25, .func (PySem.W.fnOf "_law_rare" "_law_rare" (defArgs s_law_rare) (defBody s_law_rare) (defScope s_law_rare) .none kV25 dc25 pm25 an25 cd25 ct25), sl25⟩) (c25 : PySem.W.codeIn K cd25 "_law_rare" = true) (k25 : PySem.W.keepIn K (.ref f25) = true)
    (a26 : PySem.W.nsIn K mainGlobals "_law_states" = some (some (.ref f26))) (l26 : K.lookup f26 = some ⟨oc26, od26, .func (PySem.W.fnOf "_law_states" "_law_states" (defArgs s_law_states) (defBody s_law_states) (defScope s_law_states) .none kV26 dc26 pm26 an26 cd26 ct26), sl26⟩) (c26 : PySem.W.codeIn K cd26 "_law_states" = true) (k26 : PySem.W.keepIn K (.ref f26) = true)
    (a27 : PySem.W.nsIn K mainGlobals "_law_auto" = some (some (.ref f27))) (l27 : K.lookup f27 = some ⟨oc27, od27, .func (PySem.W.fnOf "_law_auto" "_law_auto" (defArgs s_law_auto) (defBody s_law_auto) (defScope s_law_auto) .none kV27 dc27 pm27 an27 cd27 ct27), sl27⟩) (c27 : PySem.W.codeIn K cd27 "_law_auto" = true) (k27 : PySem.W.keepIn K (.ref f27) = true)
    (a28 : PySem.W.nsIn K mainGlobals "step_matrix" = some (some (.ref f28))) (l28 : K.lookup f28 = some ⟨oc28, od28, .func (PySem.W.fnOf "step_matrix" "step_matrix" (defArgs s_step_matrix) (defBody s_step_matrix) (defScope s_step_matrix) .none kV28 dc28 pm28 an28 cd28 ct28), sl28⟩) (c28 : PySem.W.codeIn K cd28 "step_matrix" = true) (k28 : PySem.W.keepIn K (.ref f28) = true)
    (a29 : PySem.W.nsIn K mainGlobals "matrix_times" = some (some (.ref f29))) (l29 : K.lookup f29 = some ⟨oc29, od29, .func (PySem.W.fnOf "matrix_times" "matrix_times" (defArgs s_matrix_times) (defBody s_matrix_times) (defScope s_matrix_times) .none kV29 dc29 pm29 an29 cd29 ct29), sl29⟩) (c29 : PySem.W.codeIn K cd29 "matrix_times" = true) (k29 : PySem.W.keepIn K (.ref f29) = true)
    (a30 : PySem.W.nsIn K mainGlobals "reversed_charpoly" = some (some (.ref f30))) (l30 : K.lookup f30 = some ⟨oc30, od30, .func (PySem.W.fnOf "reversed_charpoly" "reversed_charpoly" (defArgs s_reversed_charpoly) (defBody s_reversed_charpoly) (defScope s_reversed_charpoly) .none kV30 dc30 pm30 an30 cd30 ct30), sl30⟩) (c30 : PySem.W.codeIn K cd30 "reversed_charpoly" = true) (k30 : PySem.W.keepIn K (.ref f30) = true)
    (a31 : PySem.W.nsIn K mainGlobals "_law_value" = some (some (.ref f31))) (l31 : K.lookup f31 = some ⟨oc31, od31, .func (PySem.W.fnOf "_law_value" "_law_value" (defArgs s_law_value) (defBody s_law_value) (defScope s_law_value) .none kV31 dc31 pm31 an31 cd31 ct31), sl31⟩) (c31 : PySem.W.codeIn K cd31 "_law_value" = true) (k31 : PySem.W.keepIn K (.ref f31) = true)
    (a32 : PySem.W.nsIn K mainGlobals "_law_accepted_counts" = some (some (.ref f32))) (l32 : K.lookup f32 = some ⟨oc32, od32, .func (PySem.W.fnOf "_law_accepted_counts" "_law_accepted_counts" (defArgs s_law_accepted_counts) (defBody s_law_accepted_counts) (defScope s_law_accepted_counts) .none kV32 dc32 pm32 an32 cd32 ct32), sl32⟩) (c32 : PySem.W.codeIn K cd32 "_law_accepted_counts" = true) (k32 : PySem.W.keepIn K (.ref f32) = true)
    (a33 : PySem.W.nsIn K mainGlobals "_law_charpoly_fits" = some (some (.ref f33))) (l33 : K.lookup f33 = some ⟨oc33, od33, .func (PySem.W.fnOf "_law_charpoly_fits" "_law_charpoly_fits" (defArgs s_law_charpoly_fits) (defBody s_law_charpoly_fits) (defScope s_law_charpoly_fits) .none kV33 dc33 pm33 an33 cd33 ct33), sl33⟩) (c33 : PySem.W.codeIn K cd33 "_law_charpoly_fits" = true) (k33 : PySem.W.keepIn K (.ref f33) = true)
    (a34 : PySem.W.nsIn K mainGlobals "law" = some (some (.ref f34))) (l34 : K.lookup f34 = some ⟨oc34, od34, .func (PySem.W.fnOf "law" "law" (defArgs s_law) (defBody s_law) (defScope s_law) .none kV34 dc34 pm34 an34 cd34 ct34), sl34⟩) (c34 : PySem.W.codeIn K cd34 "law" = true) (k34 : PySem.W.keepIn K (.ref f34) = true)
    (z_len : PySem.W.nsIn K mainGlobals "len" = some none)
    (z_range : PySem.W.nsIn K mainGlobals "range" = some none)
    (z_list : PySem.W.nsIn K mainGlobals "list" = some none)
    (z_abs : PySem.W.nsIn K mainGlobals "abs" = some none)
    (z_max : PySem.W.nsIn K mainGlobals "max" = some none)
    (z_sum : PySem.W.nsIn K mainGlobals "sum" = some none)
    (z_all : PySem.W.nsIn K mainGlobals "all" = some none)
    (z_any : PySem.W.nsIn K mainGlobals "any" = some none)
    (z_int : PySem.W.nsIn K mainGlobals "int" = some none)
    (z_bool : PySem.W.nsIn K mainGlobals "bool" = some none)
    (z_tuple : PySem.W.nsIn K mainGlobals "tuple" = some none)
    (z_isinstance : PySem.W.nsIn K mainGlobals "isinstance" = some none) :
    ∃ fd : FuncData, (∀ (s : Shared) (u : Value), BindsTo s fd ⟨[u], []⟩ [("script", u)]) ∧ ∀ base : Heap, K.In base → base.Ns mainGlobals mg → base.NoSeer → FnOk l.prog w K mg base CX0 46 fa fd ["script"] (spOf K fs_law) := by
  have e := hfa.symm.trans (PySem.W.mg_of X G a34)
  cases e
  have B : Bltn mg := ⟨PySem.W.mg_none_of X G z_len, PySem.W.mg_none_of X G z_range, PySem.W.mg_none_of X G z_list, PySem.W.mg_none_of X G z_abs, PySem.W.mg_none_of X G z_max, PySem.W.mg_none_of X G z_sum, PySem.W.mg_none_of X G z_all, PySem.W.mg_none_of X G z_any, PySem.W.mg_none_of X G z_int, PySem.W.mg_none_of X G z_bool, PySem.W.mg_none_of X G z_tuple, PySem.W.mg_none_of X G z_isinstance⟩
  have F0 := fun_mk (st := s_law_begin) l0 c0 k0
  have N0 := kn_mk (ps := ["script"]) X G a0 F0 (F0.binds (ps := ["script"]) fun _ _ _ _ _ _ us hl => match us, hl with | [_], _ => rfl)
  have F1 := fun_mk (st := s_law_draw) l1 c1 k1
  have N1 := kn_mk (ps := ["d", "many"]) X G a1 F1 (F1.binds (ps := ["d", "many"]) fun _ _ _ _ _ _ us hl => match us, hl with | [_, _], _ => rfl)
  have F2 := fun_mk (st := s_law_coefficients) l2 c2 k2
  have N2 := kn_mk (ps := ["d", "many", "reach"]) X G a2 F2 (F2.binds (ps := ["d", "many", "reach"]) fun _ _ _ _ _ _ us hl => match us, hl with | [_, _, _], _ => rfl)
  have F3 := fun_mk (st := s_law_poly) l3 c3 k3
  have N3 := kn_mk (ps := ["d", "least", "most"]) X G a3 F3 (F3.binds (ps := ["d", "least", "most"]) fun _ _ _ _ _ _ us hl => match us, hl with | [_, _, _], _ => rfl)
  have F4 := fun_mk (st := s_law_times) l4 c4 k4
  have N4 := kn_mk (ps := ["one", "other"]) X G a4 F4 (F4.binds (ps := ["one", "other"]) fun _ _ _ _ _ _ us hl => match us, hl with | [_, _], _ => rfl)
  have F5 := fun_mk (st := s_trim_poly) l5 c5 k5
  have N5 := kn_mk (ps := ["row"]) X G a5 F5 (F5.binds (ps := ["row"]) fun _ _ _ _ _ _ us hl => match us, hl with | [_], _ => rfl)
  have F6 := fun_mk (st := s_poly_times) l6 c6 k6
  have N6 := kn_mk (ps := ["one", "other"]) X G a6 F6 (F6.binds (ps := ["one", "other"]) fun _ _ _ _ _ _ us hl => match us, hl with | [_, _], _ => rfl)
  have F7 := fun_mk (st := s_law_is_int) l7 c7 k7
  have N7 := kn_mk (ps := ["thing"]) X G a7 F7 (F7.binds (ps := ["thing"]) fun _ _ _ _ _ _ us hl => match us, hl with | [_], _ => rfl)
  have F8 := fun_mk (st := s_law_is_poly) l8 c8 k8
  have N8 := kn_mk (ps := ["thing"]) X G a8 F8 (F8.binds (ps := ["thing"]) fun _ _ _ _ _ _ us hl => match us, hl with | [_], _ => rfl)
  have F9 := fun_mk (st := s_poly_minus) l9 c9 k9
  have N9 := kn_mk (ps := ["one", "other"]) X G a9 F9 (F9.binds (ps := ["one", "other"]) fun _ _ _ _ _ _ us hl => match us, hl with | [_, _], _ => rfl)
  have F10 := fun_mk (st := s_law_minus) l10 c10 k10
  have N10 := kn_mk (ps := ["one", "other"]) X G a10 F10 (F10.binds (ps := ["one", "other"]) fun _ _ _ _ _ _ us hl => match us, hl with | [_, _], _ => rfl)
  have F11 := fun_mk (st := s_law_sums_fit) l11 c11 k11
  have N11 := kn_mk (ps := ["one", "other"]) X G a11 F11 (F11.binds (ps := ["one", "other"]) fun _ _ _ _ _ _ us hl => match us, hl with | [_, _], _ => rfl)
  have F12 := fun_mk (st := s_gcd_of) l12 c12 k12
  have N12 := kn_mk (ps := ["one", "other"]) X G a12 F12 (F12.binds (ps := ["one", "other"]) fun _ _ _ _ _ _ us hl => match us, hl with | [_, _], _ => rfl)
  have F13 := fun_mk (st := s_primitive_part) l13 c13 k13
  have N13 := kn_mk (ps := ["row"]) X G a13 F13 (F13.binds (ps := ["row"]) fun _ _ _ _ _ _ us hl => match us, hl with | [_], _ => rfl)
  have F14 := fun_mk (st := s_law_common) l14 c14 k14
  have N14 := kn_mk (ps := ["row"]) X G a14 F14 (F14.binds (ps := ["row"]) fun _ _ _ _ _ _ us hl => match us, hl with | [_], _ => rfl)
  have F15 := fun_mk (st := s_law_primitive) l15 c15 k15
  have N15 := kn_mk (ps := ["row"]) X G a15 F15 (F15.binds (ps := ["row"]) fun _ _ _ _ _ _ us hl => match us, hl with | [_], _ => rfl)
  have F16 := fun_mk (st := s_law_primitive_fits) l16 c16 k16
  have N16 := kn_mk (ps := ["row"]) X G a16 F16 (F16.binds (ps := ["row"]) fun _ _ _ _ _ _ us hl => match us, hl with | [_], _ => rfl)
  have F17 := fun_mk (st := s_pseudo_remainder) l17 c17 k17
  have N17 := kn_mk (ps := ["one", "other"]) X G a17 F17 (F17.binds (ps := ["one", "other"]) fun _ _ _ _ _ _ us hl => match us, hl with | [_, _], _ => rfl)
  have F18 := fun_mk (st := s_poly_gcd) l18 c18 k18
  have N18 := kn_mk (ps := ["one", "other"]) X G a18 F18 (F18.binds (ps := ["one", "other"]) fun _ _ _ _ _ _ us hl => match us, hl with | [_, _], _ => rfl)
  have F19 := fun_mk (st := s_law_quotient) l19 c19 k19
  have N19 := kn_mk (ps := ["one", "other"]) X G a19 F19 (F19.binds (ps := ["one", "other"]) fun _ _ _ _ _ _ us hl => match us, hl with | [_, _], _ => rfl)
  have F20 := fun_mk (st := s_law_determinant) l20 c20 k20
  have N20 := kn_mk (ps := ["matrix"]) X G a20 F20 (F20.binds (ps := ["matrix"]) fun _ _ _ _ _ _ us hl => match us, hl with | [_], _ => rfl)
  have F21 := fun_mk (st := s_law_resultant) l21 c21 k21
  have N21 := kn_mk (ps := ["one", "other"]) X G a21 F21 (F21.binds (ps := ["one", "other"]) fun _ _ _ _ _ _ us hl => match us, hl with | [_, _], _ => rfl)
  have F22 := fun_mk (st := s_poly_quotient) l22 c22 k22
  have N22 := kn_mk (ps := ["one", "other"]) X G a22 F22 (F22.binds (ps := ["one", "other"]) fun _ _ _ _ _ _ us hl => match us, hl with | [_, _], _ => rfl)
  have F23 := fun_mk (st := s_law_quotient_fits) l23 c23 k23
  have N23 := kn_mk (ps := ["one", "other", "due"]) X G a23 F23 (F23.binds (ps := ["one", "other", "due"]) fun _ _ _ _ _ _ us hl => match us, hl with | [_, _, _], _ => rfl)
  have F24 := fun_mk (st := s_law_gcd_fits) l24 c24 k24
  have N24 := kn_mk (ps := ["one", "other"]) X G a24 F24 (F24.binds (ps := ["one", "other"]) fun _ _ _ _ _ _ us hl => match us, hl with | [_, _], _ => rfl)
  have F25 := fun_mk (st := s_law_rare) l25 c25 k25
  have N25 := kn_mk (ps := ["d", "many"]) X G a25 F25 (F25.binds (ps := ["d", "many"]) fun _ _ _ _ _ _ us hl => match us, hl with | [_, _], _ => rfl)
  have F26 := fun_mk (st := s_law_states) l26 c26 k26
  have N26 := kn_mk (ps := ["d", "letters", "most"]) X G a26 F26 (F26.binds (ps := ["d", "letters", "most"]) fun _ _ _ _ _ _ us hl => match us, hl with | [_, _, _], _ => rfl)
  have F27 := fun_mk (st := s_law_auto) l27 c27 k27
  have N27 := kn_mk (ps := ["d", "letters", "most"]) X G a27 F27 (F27.binds (ps := ["d", "letters", "most"]) fun _ _ _ _ _ _ us hl => match us, hl with | [_, _, _], _ => rfl)
  have F28 := fun_mk (st := s_step_matrix) l28 c28 k28
  have N28 := kn_mk (ps := ["steps"]) X G a28 F28 (F28.binds (ps := ["steps"]) fun _ _ _ _ _ _ us hl => match us, hl with | [_], _ => rfl)
  have F29 := fun_mk (st := s_matrix_times) l29 c29 k29
  have N29 := kn_mk (ps := ["one", "other"]) X G a29 F29 (F29.binds (ps := ["one", "other"]) fun _ _ _ _ _ _ us hl => match us, hl with | [_, _], _ => rfl)
  have F30 := fun_mk (st := s_reversed_charpoly) l30 c30 k30
  have N30 := kn_mk (ps := ["steps"]) X G a30 F30 (F30.binds (ps := ["steps"]) fun _ _ _ _ _ _ us hl => match us, hl with | [_], _ => rfl)
  have F31 := fun_mk (st := s_law_value) l31 c31 k31
  have N31 := kn_mk (ps := ["row", "place"]) X G a31 F31 (F31.binds (ps := ["row", "place"]) fun _ _ _ _ _ _ us hl => match us, hl with | [_, _], _ => rfl)
  have F32 := fun_mk (st := s_law_accepted_counts) l32 c32 k32
  have N32 := kn_mk (ps := ["auto", "most"]) X G a32 F32 (F32.binds (ps := ["auto", "most"]) fun _ _ _ _ _ _ us hl => match us, hl with | [_, _], _ => rfl)
  have F33 := fun_mk (st := s_law_charpoly_fits) l33 c33 k33
  have N33 := kn_mk (ps := ["auto"]) X G a33 F33 (F33.binds (ps := ["auto"]) fun _ _ _ _ _ _ us hl => match us, hl with | [_], _ => rfl)
  have F34 := fun_mk (st := s_law) l34 c34 k34
  refine ⟨PySem.W.fnOf "law" "law" (defArgs s_law) (defBody s_law) (defScope s_law) .none kV34 dc34 pm34 an34 cd34 ct34, fun s v => .of_eq rfl, fun base _ _ hS => ?_⟩
  have C0 : Cal l.prog w K mg base 41 "_law_begin" ["script"] fs_begin := N0.cal fun f fd F => ok_law_begin B  F
  have C1 : Cal l.prog w K mg base 41 "_law_draw" ["d", "many"] fs_draw := N1.cal fun f fd F => ok_law_draw B hS hT  F
  have C2 : Cal l.prog w K mg base 42 "_law_coefficients" ["d", "many", "reach"] fs_coefs := N2.cal fun f fd F => ok_law_coefficients B (C1.mono (by decide)) F
  have C3 : Cal l.prog w K mg base 43 "_law_poly" ["d", "least", "most"] fs_poly := N3.cal fun f fd F => ok_law_poly B (C1.mono (by decide)) (C2.mono (by decide)) F
  have C4 : Cal l.prog w K mg base 42 "_law_times" ["one", "other"] fs_ltimes := N4.cal fun f fd F => ok_law_times B  F
  have C5 : Cal l.prog w K mg base 41 "trim_poly" ["row"] fs_trim := N5.cal fun f fd F => ok_trim_poly B  F
  have C6 : Cal l.prog w K mg base 42 "poly_times" ["one", "other"] fs_times := N6.cal fun f fd F => ok_poly_times B (C5.mono (by decide)) F
  have C7 : Cal l.prog w K mg base 41 "_law_is_int" ["thing"] fs_isint := N7.cal fun f fd F => ok_law_is_int B  F
  have C8 : Cal l.prog w K mg base 42 "_law_is_poly" ["thing"] fs_ispoly := N8.cal fun f fd F => ok_law_is_poly B (C7.mono (by decide)) F
  have C9 : Cal l.prog w K mg base 42 "poly_minus" ["one", "other"] fs_minus := N9.cal fun f fd F => ok_poly_minus B (C5.mono (by decide)) F
  have C10 : Cal l.prog w K mg base 42 "_law_minus" ["one", "other"] fs_lminus := N10.cal fun f fd F => ok_law_minus B  F
  have C11 : Cal l.prog w K mg base 43 "_law_sums_fit" ["one", "other"] fs_sums := N11.cal fun f fd F => ok_law_sums_fit B (C6.mono (by decide)) (C8.mono (by decide)) (C4.mono (by decide)) (C9.mono (by decide)) (C10.mono (by decide)) F
  have C12 : Cal l.prog w K mg base 41 "gcd_of" ["one", "other"] fs_gcd := N12.cal fun f fd F => ok_gcd_of B hS hT  F
  have C13 : Cal l.prog w K mg base 42 "primitive_part" ["row"] fs_prim := N13.cal fun f fd F => ok_primitive_part B hS hT (C12.mono (by decide)) F
  have C14 : Cal l.prog w K mg base 41 "_law_common" ["row"] fs_common := N14.cal fun f fd F => ok_law_common B hS hT  F
  have C15 : Cal l.prog w K mg base 42 "_law_primitive" ["row"] fs_lprim := N15.cal fun f fd F => ok_law_primitive B hS hT (C14.mono (by decide)) F
  have C16 : Cal l.prog w K mg base 43 "_law_primitive_fits" ["row"] fs_pfits := N16.cal fun f fd F => ok_law_primitive_fits B (C13.mono (by decide)) (C8.mono (by decide)) (C15.mono (by decide)) F
  have C17 : Cal l.prog w K mg base 43 "pseudo_remainder" ["one", "other"] fs_prem := N17.cal fun f fd F => ok_pseudo_remainder B (C9.mono (by decide)) F
  have C18 : Cal l.prog w K mg base 44 "poly_gcd" ["one", "other"] fs_pgcd := N18.cal fun f fd F => ok_poly_gcd B (C13.mono (by decide)) (C17.mono (by decide)) F
  have C19 : Cal l.prog w K mg base 41 "_law_quotient" ["one", "other"] fs_lquo := N19.cal fun f fd F => ok_law_quotient B hS hT  F
  have C20 : Cal l.prog w K mg base 41 "_law_determinant" ["matrix"] fs_det := N20.cal fun f fd F => ok_law_determinant B hS hT  F
  have C21 : Cal l.prog w K mg base 42 "_law_resultant" ["one", "other"] fs_res := N21.cal fun f fd F => ok_law_resultant B (C20.mono (by decide)) F
  have C22 : Cal l.prog w K mg base 43 "poly_quotient" ["one", "other"] fs_quo := N22.cal fun f fd F => ok_poly_quotient B hS hT (C5.mono (by decide)) (C9.mono (by decide)) F
  have C23 : Cal l.prog w K mg base 44 "_law_quotient_fits" ["one", "other", "due"] fs_qfits := N23.cal fun f fd F => ok_law_quotient_fits B (C22.mono (by decide)) (C8.mono (by decide)) F
  have C24 : Cal l.prog w K mg base 45 "_law_gcd_fits" ["one", "other"] fs_gfits := N24.cal fun f fd F => ok_law_gcd_fits B (C18.mono (by decide)) (C8.mono (by decide)) (C15.mono (by decide)) (C19.mono (by decide)) (C21.mono (by decide)) (C23.mono (by decide)) F
  have C25 : Cal l.prog w K mg base 42 "_law_rare" ["d", "many"] fs_rare := N25.cal fun f fd F => ok_law_rare B hS hT (C1.mono (by decide)) F
  have C26 : Cal l.prog w K mg base 42 "_law_states" ["d", "letters", "most"] fs_states := N26.cal fun f fd F => ok_law_states B (C1.mono (by decide)) F
  have C27 : Cal l.prog w K mg base 43 "_law_auto" ["d", "letters", "most"] fs_auto := N27.cal fun f fd F => ok_law_auto B (C26.mono (by decide)) F
  have C28 : Cal l.prog w K mg base 41 "step_matrix" ["steps"] fs_step := N28.cal fun f fd F => ok_step_matrix B  F
  have C29 : Cal l.prog w K mg base 41 "matrix_times" ["one", "other"] fs_mtimes := N29.cal fun f fd F => ok_matrix_times B  F
  have C30 : Cal l.prog w K mg base 42 "reversed_charpoly" ["steps"] fs_char := N30.cal fun f fd F => ok_reversed_charpoly B hS hT (C28.mono (by decide)) (C29.mono (by decide)) (C5.mono (by decide)) F
  have C31 : Cal l.prog w K mg base 41 "_law_value" ["row", "place"] fs_value := N31.cal fun f fd F => ok_law_value B  F
  have C32 : Cal l.prog w K mg base 41 "_law_accepted_counts" ["auto", "most"] fs_counts := N32.cal fun f fd F => ok_law_accepted_counts B  F
  have C33 : Cal l.prog w K mg base 43 "_law_charpoly_fits" ["auto"] fs_cfits := N33.cal fun f fd F => ok_law_charpoly_fits B (C30.mono (by decide)) (C8.mono (by decide)) (C31.mono (by decide)) (C20.mono (by decide)) (C32.mono (by decide)) F
  exact ok_law B (C0.mono (by decide)) (C3.mono (by decide)) (C4.mono (by decide)) (C1.mono (by decide)) (C2.mono (by decide)) (C11.mono (by decide)) (C16.mono (by decide)) (C24.mono (by decide)) (C23.mono (by decide)) (C25.mono (by decide)) (C27.mono (by decide)) (C33.mono (by decide)) F34
end K67
set_option Elab.async false
set_option linter.all false
set_option maxRecDepth 100000
open PySem PySem.W PyProof.Rows
set_option maxHeartbeats 0 in
theorem PySem.Challenge.cw_lettercourt_k67_divisors_and_charpolys_holds : PySem.Challenge.rw_lettercourt_k67_divisors_and_charpolys.Holds := by
  w_on; o_law; k_head; (case hw => w_witness2)
  k_fill
  refine DL.walk_dl (l := PySem.Challenge.rw_lettercourt_k67_divisors_and_charpolys) (n := 63) (k := 46) (x := "script") (F := K67.fs_law) rfl (by decide) rfl ⟨rfl, by decide, by decide⟩ (by first | rfl | decide +kernel) (fun w h Y => PySem.W.kIn_of Y) ?F (fun ns w hl => ⟨ns, rfl, by omega, fun _ => rfl⟩)
  case F =>
    intro w mg fa h KX G hmg
    refine' K67.all_mk (by rfl) KX G hmg ?a0 ?l0 ?c0 ?k0 ?a1 ?l1 ?c1 ?k1 ?a2 ?l2 ?c2 ?k2 ?a3 ?l3 ?c3 ?k3 ?a4 ?l4 ?c4 ?k4 ?a5 ?l5 ?c5 ?k5 ?a6 ?l6 ?c6 ?k6 ?a7 ?l7 ?c7 ?k7 ?a8 ?l8 ?c8 ?k8 ?a9 ?l9 ?c9 ?k9 ?a10 ?l10 ?c10 ?k10 ?a11 ?l11 ?c11 ?k11 ?a12 ?l12 ?c12 ?k12 ?a13 ?l13 ?c13 ?k13 ?a14 ?l14 ?c14 ?k14 ?a15 ?l15 ?c15 ?k15 ?a16 ?l16 ?c16 ?k16 ?a17 ?l17 ?c17 ?k17 ?a18 ?l18 ?c18 ?k18 ?a19 ?l19 ?c19 ?k19 ?a20 ?l20 ?c20 ?k20 ?a21 ?l21 ?c21 ?k21 ?a22 ?l22 ?c22 ?k22 ?a23 ?l23 ?c23 ?k23 ?a24 ?l24 ?c24 ?k24 ?a25 ?l25 ?c25 ?k25 ?a26 ?l26 ?c26 ?k26 ?a27 ?l27 ?c27 ?k27 ?a28 ?l28 ?c28 ?k28 ?a29 ?l29 ?c29 ?k29 ?a30 ?l30 ?c30 ?k30 ?a31 ?l31 ?c31 ?k31 ?a32 ?l32 ?c32 ?k32 ?a33 ?l33 ?c33 ?k33 ?a34 ?l34 ?c34 ?k34 ?z_len ?z_range ?z_list ?z_abs ?z_max ?z_sum ?z_all ?z_any ?z_int ?z_bool ?z_tuple ?z_isinstance
    (case a0 => k_is); (case l0 => k_is); (case c0 => k_is); (case k0 => k_is); (case a1 => k_is); (case l1 => k_is); (case c1 => k_is); (case k1 => k_is); (case a2 => k_is); (case l2 => k_is); (case c2 => k_is); (case k2 => k_is); (case a3 => k_is); (case l3 => k_is); (case c3 => k_is); (case k3 => k_is); (case a4 => k_is); (case l4 => k_is); (case c4 => k_is); (case k4 => k_is); (case a5 => k_is); (case l5 => k_is); (case c5 => k_is); (case k5 => k_is); (case a6 => k_is); (case l6 => k_is); (case c6 => k_is); (case k6 => k_is); (case a7 => k_is); (case l7 => k_is); (case c7 => k_is); (case k7 => k_is); (case a8 => k_is); (case l8 => k_is); (case c8 => k_is); (case k8 => k_is); (case a9 => k_is); (case l9 => k_is); (case c9 => k_is); (case k9 => k_is); (case a10 => k_is); (case l10 => k_is); (case c10 => k_is); (case k10 => k_is); (case a11 => k_is); (case l11 => k_is); (case c11 => k_is); (case k11 => k_is); (case a12 => k_is); (case l12 => k_is); (case c12 => k_is); (case k12 => k_is); (case a13 => k_is); (case l13 => k_is); (case c13 => k_is); (case k13 => k_is); (case a14 => k_is); (case l14 => k_is); (case c14 => k_is); (case k14 => k_is); (case a15 => k_is); (case l15 => k_is); (case c15 => k_is); (case k15 => k_is); (case a16 => k_is); (case l16 => k_is); (case c16 => k_is); (case k16 => k_is); (case a17 => k_is); (case l17 => k_is); (case c17 => k_is); (case k17 => k_is); (case a18 => k_is); (case l18 => k_is); (case c18 => k_is); (case k18 => k_is); (case a19 => k_is); (case l19 => k_is); (case c19 => k_is); (case k19 => k_is); (case a20 => k_is); (case l20 => k_is); (case c20 => k_is); (case k20 => k_is); (case a21 => k_is); (case l21 => k_is); (case c21 => k_is); (case k21 => k_is); (case a22 => k_is); (case l22 => k_is); (case c22 => k_is); (case k22 => k_is); (case a23 => k_is); (case l23 => k_is); (case c23 => k_is); (case k23 => k_is); (case a24 => k_is); (case l24 => k_is); (case c24 => k_is); (case k24 => k_is); (case a25 => k_is); (case l25 => k_is); (case c25 => k_is); (case k25 => k_is); (case a26 => k_is); (case l26 => k_is); (case c26 => k_is); (case k26 => k_is); (case a27 => k_is); (case l27 => k_is); (case c27 => k_is); (case k27 => k_is); (case a28 => k_is); (case l28 => k_is); (case c28 => k_is); (case k28 => k_is); (case a29 => k_is); (case l29 => k_is); (case c29 => k_is); (case k29 => k_is); (case a30 => k_is); (case l30 => k_is); (case c30 => k_is); (case k30 => k_is); (case a31 => k_is); (case l31 => k_is); (case c31 => k_is); (case k31 => k_is); (case a32 => k_is); (case l32 => k_is); (case c32 => k_is); (case k32 => k_is); (case a33 => k_is); (case l33 => k_is); (case c33 => k_is); (case k33 => k_is); (case a34 => k_is); (case l34 => k_is); (case c34 => k_is); (case k34 => k_is); (case z_len => k_is); (case z_range => k_is); (case z_list => k_is); (case z_abs => k_is); (case z_max => k_is); (case z_sum => k_is); (case z_all => k_is); (case z_any => k_is); (case z_int => k_is); (case z_bool => k_is); (case z_tuple => k_is); (case z_isinstance => k_is)
