import PyProof.Rows.All
import Wide.All
import OpenK.AllK
import Wide.FinOn
import HandS.ForMost
import HandS.Defaults
import KE.DataEq
import HandS.Wide
import HandS.Gcd
import HandS.SortInts
import HandS.Style
import HandS.IsInst
import HandS.DictComp
import HandS.More
import HandS.HeadEnd
import HandS.HeadHook1
import HandS.HeadHook2
import KE.KStateDown
import Lean
import HandS.Head0
import HandS.Head1
import HandS.Head2
import PySem.Challenge.RW_creasewise_k41_sheets_folded_and_cut
set_option Elab.async false
set_option linter.all false
set_option maxRecDepth 100000
set_option maxHeartbeats 0
/-! Pd: Python data as trees. D: a value as data; cell a: a mutable object at the address a. Rep: a value stands for data in the frozen heap F. -/
namespace Pd
open PySem PySem.Spec PyProof.Rows L2
inductive D where
  | non | bl (b : Bool) | int (i : Int) | str (x : Str)
  | tup (k : Bool) (ds : List D) | lst (ds : List D)
  | dK (ks : List Key) (ds : List D) | dT (ks : List (List Key)) (ds : List D)
  | cell (a : Addr)
instance : Inhabited D := ⟨.non⟩
/-- what an evaluation hands back: frozen data (cells within are named by their addresses), or the content of a new object that nobody else holds -/
inductive RV where
  | d (x : D) | o (x : D)
/-- what a slot holds: nothing known, frozen data, the content of an object of its own -/
inductive SV where
  | un | fz (x : D) | ow (x : D)
abbrev Mu := Addr → Option D
def mset (m : Mu) (a : Addr) (c : Option D) : Mu := fun b => if b = a then c else m b
theorem mset_same {m : Mu} {a : Addr} {c : Option D} : mset m a c a = c := by unfold mset; rw [if_pos rfl]
theorem mset_ne {m : Mu} {a b : Addr} {c : Option D} (h : b ≠ a) : mset m a c b = m b := by unfold mset; rw [if_neg h]
theorem mset_mset {m : Mu} {a : Addr} {c d : Option D} : mset (mset m a c) a d = mset m a d := by
  funext b; unfold mset; split <;> rfl
theorem mset_self {m : Mu} {a : Addr} {c : Option D} (h : m a = c) : mset m a c = m := by
  funext b; unfold mset; split
  · next e => rw [e, h]
  · rfl
theorem mset_comm {m : Mu} {a b : Addr} {c d : Option D} (h : a ≠ b) : mset (mset m a c) b d = mset (mset m b d) a c := by
  funext x; unfold mset
  by_cases h1 : x = a
  · subst h1
    simp [h]
  · simp [h1]

/-! ### frozen representation -/
/-- a tuple that is read: tracked, or (k) of the module -/
def TupF (K : PySem.W.Frag) (F : Hp) (k : Bool) (a : Addr) (vs : List V) : Prop := match k with
  | false => F a = some (.tup vs)
  | true => ∃ (o : Obj) (its : Array Value) (n : Nat), K.lookup a = some o ∧ o.cls = .type "tuple" ∧ o.data = .seq its n ∧ its.size ≤ sizeLine ∧ Vals vs its.toList
theorem TupF.sq {K : PySem.W.Frag} {F H : Hp} {k : Bool} {a : Addr} {vs : List V} (h : TupF K F k a vs) (s : ∀ a o, F a = some o → H a = some o) : SqT K H a vs := by
  cases k with
  | false => exact .inl (.inl (s _ _ h))
  | true => exact .inr h
mutual
def Rep (K : PySem.W.Frag) (F : Hp) : D → V → Prop
  | .non, v => v = .non
  | .bl b, v => v = .bl b
  | .int i, v => v = .int i
  | .str x, v => v = .str x
  | .tup k ds, v => ∃ a vs, v = .ref a ∧ TupF K F k a vs ∧ Reps K F ds vs
  | .lst ds, v => ∃ a vs, v = .ref a ∧ SqL K F a vs ∧ Reps K F ds vs
  | .dK ks ds, v => ∃ a ws, v = .ref a ∧ Rd F a (.dK ws) ∧ ws.map (·.1) = ks ∧ Reps K F ds (ws.map (·.2))
  | .dT ks ds, v => ∃ a ws, v = .ref a ∧ Rd F a (.dT ws) ∧ ws.map (·.1) = ks ∧ Reps K F ds (ws.map (·.2))
  | .cell a, v => v = .ref a
def Reps (K : PySem.W.Frag) (F : Hp) : List D → List V → Prop
  | [], vs => vs = []
  | d :: ds, vs => ∃ v r, vs = v :: r ∧ Rep K F d v ∧ Reps K F ds r
end
/-- F' knows what F knows: a dict may have been locked -/
def Le (F F' : Hp) : Prop := ∀ a o, F a = some o → F' a = some o ∨ (((∃ ws, o = .dK ws) ∨ ∃ ws, o = .dT ws) ∧ ∃ od, F' a = some (.frz od o))
theorem Le.refl {F : Hp} : Le F F := fun _ _ e => .inl e
theorem Le.trans {F F' F'' : Hp} (h : Le F F') (h' : Le F' F'') : Le F F'' := fun a o e => by
  rcases h a o e with e1 | ⟨q, od, e1⟩
  · exact h' a o e1
  · rcases h' a _ e1 with e2 | ⟨q2, _⟩
    · exact .inr ⟨q, od, e2⟩
    · rcases q2 with ⟨ws, z⟩ | ⟨ws, z⟩ <;> cases z
theorem Le.of {F F' : Hp} (h : ∀ a o, F a = some o → F' a = some o) : Le F F' := fun a o e => .inl (h a o e)
theorem Le.tup {F F' : Hp} (h : Le F F') {a : Addr} {vs : List V} (e : F a = some (.tup vs)) : F' a = some (.tup vs) := by
  rcases h a _ e with e1 | ⟨q, _⟩
  · exact e1
  · rcases q with ⟨ws, z⟩ | ⟨ws, z⟩ <;> cases z
theorem Le.rd {F F' : Hp} (h : Le F F') {a : Addr} {u : HO} (r : Rd F a u) : Rd F' a u := by
  rcases r with e | ⟨ob, e⟩
  · rcases h a _ e with e1 | ⟨_, od, e1⟩
    · exact .inl e1
    · exact .inr ⟨od, e1⟩
  · rcases h a _ e with e1 | ⟨q, _⟩
    · exact .inr ⟨ob, e1⟩
    · rcases q with ⟨ws, z⟩ | ⟨ws, z⟩ <;> cases z
theorem Le.sq {K : PySem.W.Frag} {F F' : Hp} (h : Le F F') {a : Addr} {xs : List V} (r : SqL K F a xs) : SqL K F' a xs := by
  rcases r with r | r
  · exact .inl (h.rd r)
  · exact .inr r
theorem Le.tupF {K : PySem.W.Frag} {F F' : Hp} (h : Le F F') {k : Bool} {a : Addr} {xs : List V} (r : TupF K F k a xs) : TupF K F' k a xs := by
  cases k with
  | false => exact h.tup r
  | true => exact r
section
variable {K : PySem.W.Frag} {F F' H H' : Hp}
mutual
theorem Rep.mono (h : Le F F') : ∀ {d : D} {v : V}, Rep K F d v → Rep K F' d v
  | .non, _, r => by rw [Rep] at r ⊢; exact r
  | .bl _, _, r => by rw [Rep] at r ⊢; exact r
  | .int _, _, r => by rw [Rep] at r ⊢; exact r
  | .str _, _, r => by rw [Rep] at r ⊢; exact r
  | .tup k ds, _, r => by
    rw [Rep] at r ⊢
    obtain ⟨a, vs, e, s, q⟩ := r
    exact ⟨a, vs, e, h.tupF s, Reps.mono h q⟩
  | .lst ds, _, r => by
    rw [Rep] at r ⊢
    obtain ⟨a, vs, e, s, q⟩ := r
    exact ⟨a, vs, e, h.sq s, Reps.mono h q⟩
  | .dK ks ds, _, r => by
    rw [Rep] at r ⊢
    obtain ⟨a, ws, e, s, k, q⟩ := r
    exact ⟨a, ws, e, h.rd s, k, Reps.mono h q⟩
  | .dT ks ds, _, r => by
    rw [Rep] at r ⊢
    obtain ⟨a, ws, e, s, k, q⟩ := r
    exact ⟨a, ws, e, h.rd s, k, Reps.mono h q⟩
  | .cell a, _, r => by rw [Rep] at r ⊢; exact r
theorem Reps.mono (h : Le F F') : ∀ {ds : List D} {vs : List V}, Reps K F ds vs → Reps K F' ds vs
  | [], _, r => by rw [Reps] at r ⊢; exact r
  | d :: ds, _, r => by
    rw [Reps] at r ⊢
    obtain ⟨v, q, e, r1, r2⟩ := r
    exact ⟨v, q, e, Rep.mono h r1, Reps.mono h r2⟩
end
theorem Reps.nil : Reps K F [] [] := by rw [Reps]
theorem Reps.cons {d : D} {ds : List D} {v : V} {vs : List V} (h : Rep K F d v) (t : Reps K F ds vs) : Reps K F (d :: ds) (v :: vs) := by rw [Reps]; exact ⟨v, vs, rfl, h, t⟩
theorem Reps.of_nil {vs : List V} (h : Reps K F [] vs) : vs = [] := by rw [Reps] at h; exact h
theorem Reps.of_cons {d : D} {ds : List D} {vs : List V} (h : Reps K F (d :: ds) vs) : ∃ v r, vs = v :: r ∧ Rep K F d v ∧ Reps K F ds r := by rw [Reps] at h; exact h
theorem Reps.length : ∀ {ds : List D} {vs : List V}, Reps K F ds vs → vs.length = ds.length
  | [], _, r => by rw [r.of_nil]; rfl
  | d :: ds, _, r => by
    obtain ⟨v, q, e, r1, r2⟩ := r.of_cons
    rw [e, List.length_cons, List.length_cons, r2.length]
theorem Reps.append : ∀ {ds es : List D} {vs ws : List V}, Reps K F ds vs → Reps K F es ws → Reps K F (ds ++ es) (vs ++ ws)
  | [], _, _, _, r, q => by rw [r.of_nil]; exact q
  | d :: ds, _, _, _, r, q => by
    obtain ⟨v, t, e, r1, r2⟩ := r.of_cons
    rw [e]
    exact .cons r1 (r2.append q)
theorem Reps.get : ∀ {ds : List D} {vs : List V} {i : Nat} {d : D}, Reps K F ds vs → ds[i]? = some d → ∃ v, vs[i]? = some v ∧ Rep K F d v
  | [], _, _, _, r, e => by simp at e
  | d :: ds, _, 0, _, r, e => by
    obtain ⟨v, t, ev, r1, r2⟩ := r.of_cons
    rw [ev]
    simp at e
    subst e
    exact ⟨v, rfl, r1⟩
  | d :: ds, _, i + 1, _, r, e => by
    obtain ⟨v, t, ev, r1, r2⟩ := r.of_cons
    rw [ev]
    simp at e
    simpa using r2.get e
theorem Reps.getV : ∀ {ds : List D} {vs : List V} {i : Nat} {v : V}, Reps K F ds vs → vs[i]? = some v → ∃ d, ds[i]? = some d ∧ Rep K F d v := fun {ds vs i v} r e => by
  have hl := r.length
  have hi := (List.getElem?_eq_some_iff.mp e).1
  have hd : ds[i]? = some ds[i] := List.getElem?_eq_getElem (by omega)
  obtain ⟨w, e', q⟩ := r.get hd
  rw [e] at e'
  cases e'
  exact ⟨_, hd, q⟩
theorem Reps.take : ∀ (n : Nat) {ds : List D} {vs : List V}, Reps K F ds vs → Reps K F (ds.take n) (vs.take n)
  | 0, _, _, _ => by simpa using Reps.nil
  | n + 1, [], _, r => by rw [r.of_nil]; simpa using Reps.nil
  | n + 1, d :: ds, _, r => by
    obtain ⟨v, t, ev, r1, r2⟩ := r.of_cons
    rw [ev]
    exact .cons r1 (r2.take n)
theorem Reps.drop : ∀ (n : Nat) {ds : List D} {vs : List V}, Reps K F ds vs → Reps K F (ds.drop n) (vs.drop n)
  | 0, _, _, r => by simpa using r
  | n + 1, [], _, r => by rw [r.of_nil]; simpa using Reps.nil
  | n + 1, d :: ds, _, r => by
    obtain ⟨v, t, ev, r1, r2⟩ := r.of_cons
    rw [ev]
    simpa using r2.drop n
theorem Reps.set : ∀ (n : Nat) {ds : List D} {vs : List V} {d : D} {v : V}, Reps K F ds vs → Rep K F d v → Reps K F (ds.set n d) (vs.set n v)
  | _, [], _, _, _, r, _ => by rw [r.of_nil]; simpa using Reps.nil
  | 0, d :: ds, _, _, _, r, q => by
    obtain ⟨v, t, ev, r1, r2⟩ := r.of_cons
    rw [ev]
    exact .cons q r2
  | n + 1, d :: ds, _, _, _, r, q => by
    obtain ⟨v, t, ev, r1, r2⟩ := r.of_cons
    rw [ev]
    exact .cons r1 (r2.set n q)
theorem Reps.eraseIdx : ∀ (n : Nat) {ds : List D} {vs : List V}, Reps K F ds vs → Reps K F (ds.eraseIdx n) (vs.eraseIdx n)
  | _, [], _, r => by rw [r.of_nil]; simpa using Reps.nil
  | 0, d :: ds, _, r => by
    obtain ⟨v, t, ev, r1, r2⟩ := r.of_cons
    rw [ev]
    simpa using r2
  | n + 1, d :: ds, _, r => by
    obtain ⟨v, t, ev, r1, r2⟩ := r.of_cons
    rw [ev]
    exact .cons r1 (r2.eraseIdx n)
theorem Reps.reverse : ∀ {ds : List D} {vs : List V}, Reps K F ds vs → Reps K F ds.reverse vs.reverse
  | [], _, r => by rw [r.of_nil]; simpa using Reps.nil
  | d :: ds, _, r => by
    obtain ⟨v, t, ev, r1, r2⟩ := r.of_cons
    rw [ev, List.reverse_cons, List.reverse_cons]
    exact r2.reverse.append (.cons r1 .nil)
theorem Reps.ints : ∀ {ns : List Int} {vs : List V}, Reps K F (ns.map .int) vs → vs = ns.map V.int
  | [], _, r => r.of_nil
  | n :: ns, _, r => by
    obtain ⟨v, t, ev, r1, r2⟩ := r.of_cons
    rw [Rep] at r1
    rw [ev, r1, Reps.ints r2]
    rfl
theorem Reps.bls : ∀ {ns : List Bool} {vs : List V}, Reps K F (ns.map .bl) vs → vs = ns.map V.bl
  | [], _, r => r.of_nil
  | n :: ns, _, r => by
    obtain ⟨v, t, ev, r1, r2⟩ := r.of_cons
    rw [Rep] at r1
    rw [ev, r1, Reps.bls r2]
    rfl
theorem Reps.strs : ∀ {ns : List Str} {vs : List V}, Reps K F (ns.map .str) vs → vs = ns.map V.str
  | [], _, r => r.of_nil
  | n :: ns, _, r => by
    obtain ⟨v, t, ev, r1, r2⟩ := r.of_cons
    rw [Rep] at r1
    rw [ev, r1, Reps.strs r2]
    rfl
theorem Reps.of_ints : ∀ {ns : List Int}, Reps K F (ns.map .int) (ns.map V.int)
  | [] => .nil
  | n :: ns => .cons (by rw [Rep]) Reps.of_ints
theorem Reps.of_strs : ∀ {ns : List Str}, Reps K F (ns.map .str) (ns.map V.str)
  | [] => .nil
  | n :: ns => .cons (by rw [Rep]) Reps.of_strs
end

/-! ### a view: what a value shows now -/
def Vw (K : PySem.W.Frag) (F H : Hp) : D → V → Prop
  | .non, v => v = .non
  | .bl b, v => v = .bl b
  | .int i, v => v = .int i
  | .str x, v => v = .str x
  | .tup k ds, v => ∃ a vs, v = .ref a ∧ TupF K F k a vs ∧ Reps K F ds vs
  | .lst ds, v => ∃ a vs, v = .ref a ∧ SqL K H a vs ∧ Reps K F ds vs
  | .dK ks ds, v => ∃ a ws, v = .ref a ∧ Rd H a (.dK ws) ∧ ws.map (·.1) = ks ∧ Reps K F ds (ws.map (·.2))
  | .dT ks ds, v => ∃ a ws, v = .ref a ∧ Rd H a (.dT ws) ∧ ws.map (·.1) = ks ∧ Reps K F ds (ws.map (·.2))
  | .cell _, _ => False
def noCell : D → Bool
  | .cell _ => false
  | _ => true
abbrev Same (F H : Hp) : Prop := ∀ a o, F a = some o → H a = some o
theorem Same.rd {F H : Hp} (s : Same F H) {a : Addr} {u : HO} (r : Rd F a u) : Rd H a u := by
  rcases r with e | ⟨ob, e⟩
  · exact .inl (s _ _ e)
  · exact .inr ⟨ob, s _ _ e⟩
theorem Same.sqL {K : PySem.W.Frag} {F H : Hp} (s : Same F H) {a : Addr} {xs : List V} (r : SqL K F a xs) : SqL K H a xs := by
  rcases r with r | r
  · exact .inl (s.rd r)
  · exact .inr r
theorem Rep.vw {K : PySem.W.Frag} {F H : Hp} (s : Same F H) : ∀ {d : D} {v : V}, Rep K F d v → noCell d = true → Vw K F H d v
  | .non, _, r, _ => by rw [Rep] at r; exact r
  | .bl _, _, r, _ => by rw [Rep] at r; exact r
  | .int _, _, r, _ => by rw [Rep] at r; exact r
  | .str _, _, r, _ => by rw [Rep] at r; exact r
  | .tup k ds, _, r, _ => by
    rw [Rep] at r
    obtain ⟨a, vs, e, t, q⟩ := r
    exact ⟨a, vs, e, t, q⟩
  | .lst ds, _, r, _ => by
    rw [Rep] at r
    obtain ⟨a, vs, e, t, q⟩ := r
    exact ⟨a, vs, e, s.sqL t, q⟩
  | .dK ks ds, _, r, _ => by
    rw [Rep] at r
    obtain ⟨a, ws, e, t, k, q⟩ := r
    exact ⟨a, ws, e, s.rd t, k, q⟩
  | .dT ks ds, _, r, _ => by
    rw [Rep] at r
    obtain ⟨a, ws, e, t, k, q⟩ := r
    exact ⟨a, ws, e, s.rd t, k, q⟩
  | .cell a, _, r, h => by cases h

/-! ### objects that are owned: cells, slots' own, new ones -/
def Own (K : PySem.W.Frag) (F H : Hp) (a : Addr) : D → Prop
  | .lst ds => ∃ vs, H a = some (.lst vs) ∧ Reps K F ds vs
  | .dK ks ds => ∃ ws, H a = some (.dK ws) ∧ ws.map (·.1) = ks ∧ Reps K F ds (ws.map (·.2))
  | .dT ks ds => ∃ ws, H a = some (.dT ws) ∧ ws.map (·.1) = ks ∧ Reps K F ds (ws.map (·.2))
  | _ => False
theorem Own.vw {K : PySem.W.Frag} {F H : Hp} {a : Addr} : ∀ {d : D}, Own K F H a d → Vw K F H d (.ref a)
  | .lst ds, ⟨vs, e, r⟩ => ⟨a, vs, rfl, .inl (.inl e), r⟩
  | .dK ks ds, ⟨ws, e, k, r⟩ => ⟨a, ws, rfl, .inl e, k, r⟩
  | .dT ks ds, ⟨ws, e, k, r⟩ => ⟨a, ws, rfl, .inl e, k, r⟩
  | .non, h => h.elim
  | .bl _, h => h.elim
  | .int _, h => h.elim
  | .str _, h => h.elim
  | .tup _ _, h => h.elim
  | .cell _, h => h.elim
theorem Own.mono {K : PySem.W.Frag} {F F' H H' : Hp} {a : Addr} (h : Le F F') (e : ∀ o, H a = some o → H' a = some o) : ∀ {d : D}, Own K F H a d → Own K F' H' a d
  | .lst ds, ⟨vs, q, r⟩ => ⟨vs, e _ q, r.mono h⟩
  | .dK ks ds, ⟨ws, q, k, r⟩ => ⟨ws, e _ q, k, r.mono h⟩
  | .dT ks ds, ⟨ws, q, k, r⟩ => ⟨ws, e _ q, k, r.mono h⟩
  | .non, h => h.elim
  | .bl _, h => h.elim
  | .int _, h => h.elim
  | .str _, h => h.elim
  | .tup _ _, h => h.elim
  | .cell _, h => h.elim
def NoTup (o : HO) : Prop := ∀ ts, o ≠ .tup ts
theorem Own.some {K : PySem.W.Frag} {F H : Hp} {a : Addr} : ∀ {d : D}, Own K F H a d → ∃ o, H a = some o ∧ NoTup o ∧ Mut (some o)
  | .lst ds, ⟨vs, q, r⟩ => ⟨_, q, (fun _ z => by cases z), trivial⟩
  | .dK ks ds, ⟨ws, q, k, r⟩ => ⟨_, q, (fun _ z => by cases z), trivial⟩
  | .dT ks ds, ⟨ws, q, k, r⟩ => ⟨_, q, (fun _ z => by cases z), trivial⟩
  | .non, h => h.elim
  | .bl _, h => h.elim
  | .int _, h => h.elim
  | .str _, h => h.elim
  | .tup _ _, h => h.elim
  | .cell _, h => h.elim
/-- an owned object is frozen -/
theorem Own.freeze {K : PySem.W.Frag} {F H : Hp} {a : Addr} {o : HO} (hF : F a = none) (e : H a = Option.some o) : ∀ {d : D}, Own K F H a d → Rep K (upd F a o) d (.ref a) := by
  have le : Le F (upd F a o) := .of fun b u q => by rw [upd_ne (ne_of_none q hF)]; exact q
  intro d h
  cases d with
  | lst ds =>
    obtain ⟨vs, q, r⟩ := h
    rw [e] at q
    cases q
    rw [Rep]
    exact ⟨a, vs, rfl, .inl (.inl upd_same), r.mono le⟩
  | dK ks ds =>
    obtain ⟨ws, q, k, r⟩ := h
    rw [e] at q
    cases q
    rw [Rep]
    exact ⟨a, ws, rfl, .inl upd_same, k, r.mono le⟩
  | dT ks ds =>
    obtain ⟨ws, q, k, r⟩ := h
    rw [e] at q
    cases q
    rw [Rep]
    exact ⟨a, ws, rfl, .inl upd_same, k, r.mono le⟩
  | _ => exact h.elim

/-- frozen heap, cells, over the heap -/
structure Mem (K : PySem.W.Frag) (F : Hp) (m : Mu) (H : Hp) : Prop where
  same : Same F H
  cells : ∀ a c, m a = some c → F a = none ∧ Own K F H a c
/-- from (F, m, H) to (F', m', H'): what is frozen stays, what is not a cell and not frozen stays as it is, new cells are new objects -/
structure Ext (F : Hp) (m : Mu) (H F' : Hp) (m' : Mu) (H' : Hp) : Prop where
  le : Le F F'
  fn : ∀ a o, F a = none → H a = some o → NoTup o → F' a = none
  hh : ∀ a o, H a = some o → m a = none → (F a = none ∨ ∃ ts, o = .tup ts) → H' a = some o
  st : ∀ a o, H a = some o → ∃ o', H' a = some o'
  nw : ∀ a c, m' a = some c → (∃ c', m a = some c') ∨ H a = none
  ce : ∀ a c, m a = some c → ∃ c', m' a = some c'
theorem Ext.refl {F : Hp} {m : Mu} {H : Hp} : Ext F m H F m H := ⟨.refl, fun _ _ e _ _ => e, fun _ _ e _ _ => e, fun _ _ e => ⟨_, e⟩, fun _ c e => .inl ⟨c, e⟩, fun _ c e => ⟨c, e⟩⟩
theorem Ext.nocell {F F' : Hp} {m m' : Mu} {H H' : Hp} (a : Ext F m H F' m' H') {x : Addr} {o : HO} (e : H x = some o) (hm : m x = none) : m' x = none := by
  cases q : m' x with
  | none => rfl
  | some c =>
    rcases a.nw x c q with ⟨c', e'⟩ | e'
    · rw [hm] at e'; cases e'
    · rw [e] at e'; cases e'
theorem Ext.trans {K : PySem.W.Frag} {F F' F'' : Hp} {m m' m'' : Mu} {H H' H'' : Hp} (a : Ext F m H F' m' H') (b : Ext F' m' H' F'' m'' H'') (M' : Mem K F' m' H') : Ext F m H F'' m'' H'' where
  le := a.le.trans b.le
  fn := fun x o e1 e2 nt => by
    have e3 := a.fn x o e1 e2 nt
    cases hm : m x with
    | none => exact b.fn x o e3 (a.hh x o e2 hm (.inl e1)) nt
    | some c =>
      obtain ⟨c', hc'⟩ := a.ce x c hm
      obtain ⟨o2, e5, nt2, _⟩ := (M'.cells x c' hc').2.some
      exact b.fn x o2 e3 e5 nt2
  hh := fun x o e1 e2 e3 => by
    refine b.hh x o (a.hh x o e1 e2 e3) (a.nocell e1 e2) ?_
    rcases e3 with e3 | e3
    · by_cases q : ∃ ts, o = .tup ts
      · exact .inr q
      · exact .inl (a.fn x o e3 e1 fun ts z => q ⟨ts, z⟩)
    · exact .inr e3
  st := fun x o e => by
    obtain ⟨o', e'⟩ := a.st x o e
    exact b.st x o' e'
  nw := fun x c e => by
    rcases b.nw x c e with ⟨c', e'⟩ | e'
    · exact a.nw x c' e'
    · right
      cases q : H x with
      | none => rfl
      | some o =>
        obtain ⟨o', e2⟩ := a.st x o q
        rw [e'] at e2
        cases e2
  ce := fun x c e => by
    obtain ⟨c', e'⟩ := a.ce x c e
    exact b.ce x c' e'

/-! ### the state of a body -/
structure Bs where
  F : Hp
  m : Mu
  H : Hp
def SlOk (K : PySem.W.Frag) (B : Bs) (F : Hp) (m : Mu) (H : Hp) (sv : SV) (o : Option V) : Prop :=
  match sv with
  | .un => True
  | .fz d => ∃ v, o = some v ∧ Rep K F d v
  | .ow c => ∃ a, o = some (.ref a) ∧ F a = none ∧ m a = none ∧ B.H a = none ∧ Own K F H a c
abbrev Ro := List SV
structure Sb (K : PySem.W.Frag) (B : Bs) (F : Hp) (r : Ro) (m : Mu) (σ : L2.St) (H : Hp) : Prop where
  mem : Mem K F m H
  ext : Ext B.F B.m B.H F m H
  len : σ.length = r.length
  sl : ∀ (i : Nat) sv, r[i]? = some sv → ∃ o, σ[i]? = some o ∧ SlOk K B F m H sv o
  ap : ∀ (i j : Nat) c c' a, i ≠ j → r[i]? = some (.ow c) → r[j]? = some (.ow c') → σ[i]? = some (some (V.ref a)) → σ[j]? = some (some (V.ref a)) → False
/-- what came out -/
def RVr (K : PySem.W.Frag) (F : Hp) (m : Mu) (H0 H : Hp) : RV → V → Prop
  | .d x, v => Rep K F x v
  | .o c, v => ∃ a, v = .ref a ∧ F a = none ∧ m a = none ∧ H0 a = none ∧ Own K F H a c
section
variable {K : PySem.W.Frag} {B : Bs} {F F' : Hp} {r : Ro} {m m' : Mu} {σ : L2.St} {H H' : Hp}
theorem Mem.noF (M : Mem K F m H) {p : Addr} (hp : H p = none) : F p = none := by
  cases q : F p with
  | none => rfl
  | some o => rw [M.same p o q] at hp; cases hp
theorem Mem.noM (M : Mem K F m H) {p : Addr} (hp : H p = none) : m p = none := by
  cases q : m p with
  | none => rfl
  | some c =>
    obtain ⟨o, e, _⟩ := (M.cells p c q).2.some
    rw [e] at hp; cases hp
theorem Sb.fresh (S : Sb K B F r m σ H) {p : Addr} (hp : H p = none) : B.H p = none := by
  cases q : B.H p with
  | none => rfl
  | some o =>
    obtain ⟨o', e⟩ := S.ext.st p o q
    rw [e] at hp; cases hp
/-- an expression has gone by: the slots are what they were -/
theorem Sb.go (S : Sb K B F r m σ H) (E : Ext F m H F' m' H') (M : Mem K F' m' H') : Sb K B F' r m' σ H' := by
  refine ⟨M, S.ext.trans E S.mem, S.len, fun i sv e => ?_, S.ap⟩
  obtain ⟨o, eo, q⟩ := S.sl i sv e
  refine ⟨o, eo, ?_⟩
  cases sv with
  | un => trivial
  | fz d =>
    obtain ⟨v, ev, rp⟩ := q
    exact ⟨v, ev, rp.mono E.le⟩
  | ow c =>
    obtain ⟨a, ev, hF, hm, hB, ho⟩ := q
    obtain ⟨u, eu, nt, _⟩ := ho.some
    exact ⟨a, ev, E.fn a u hF eu nt, E.nocell eu hm, hB, ho.mono E.le fun o' e' => by
      rw [eu] at e'
      cases e'
      exact E.hh a u eu hm (.inl hF)⟩
/-- a new frozen object -/
theorem Mem.newF (M : Mem K F m H) {p : Addr} (hp : H p = none) (o : HO) : Mem K (upd F p o) m (upd H p o) := by
  have hF := M.noF hp
  have le : Le F (upd F p o) := .of fun b u q => by rw [upd_ne (ne_of_none q hF)]; exact q
  refine ⟨fun a u e => ?_, fun a c e => ?_⟩
  · by_cases h : a = p
    · subst h; rw [upd_same] at e ⊢; exact e
    · rw [upd_ne h] at e ⊢; exact M.same a u e
  · obtain ⟨h1, h2⟩ := M.cells a c e
    obtain ⟨u, eu, _⟩ := h2.some
    have hne : a ≠ p := ne_of_none eu hp
    exact ⟨by rw [upd_ne hne]; exact h1, h2.mono le fun o' e' => by rw [upd_ne hne]; exact e'⟩
theorem Ext.newF (M : Mem K F m H) {p : Addr} (hp : H p = none) (o : HO) : Ext F m H (upd F p o) m (upd H p o) := by
  have hF := M.noF hp
  refine ⟨.of fun b u q => by rw [upd_ne (ne_of_none q hF)]; exact q, fun a u e1 e2 _ => by rw [upd_ne (ne_of_none e2 hp)]; exact e1, fun a u e1 _ _ => by rw [upd_ne (ne_of_none e1 hp)]; exact e1, fun a u e => ?_, fun a c e => .inl ⟨c, e⟩, fun a c e => ⟨c, e⟩⟩
  exact ⟨u, by rw [upd_ne (ne_of_none e hp)]; exact e⟩
/-- a new object, held by nobody yet -/
theorem Mem.newH (M : Mem K F m H) {p : Addr} (hp : H p = none) (o : HO) : Mem K F m (upd H p o) := by
  refine ⟨fun a u e => ?_, fun a c e => ?_⟩
  · rw [upd_ne (ne_of_none (M.same a u e) hp)]; exact M.same a u e
  · obtain ⟨h1, h2⟩ := M.cells a c e
    obtain ⟨u, eu, _⟩ := h2.some
    exact ⟨h1, h2.mono .refl fun o' e' => by rw [upd_ne (ne_of_none e' hp)]; exact e'⟩
theorem Ext.newH {p : Addr} (hp : H p = none) (o : HO) : Ext F m H F m (upd H p o) :=
  ⟨.refl, fun a u e1 _ _ => e1, fun a u e1 _ _ => by rw [upd_ne (ne_of_none e1 hp)]; exact e1, fun a u e => ⟨u, by rw [upd_ne (ne_of_none e hp)]; exact e⟩, fun a c e => .inl ⟨c, e⟩, fun a c e => ⟨c, e⟩⟩
/-- an owned object that is no cell and no slot's is frozen: F alone changes -/
theorem Mem.frz (M : Mem K F m H) {a : Addr} {o : HO} (hF : F a = none) (hm : m a = none) (e : H a = some o) : Mem K (upd F a o) m H := by
  have le : Le F (upd F a o) := .of fun b u q => by rw [upd_ne (ne_of_none q hF)]; exact q
  refine ⟨fun b u q => ?_, fun b c q => ?_⟩
  · by_cases h : b = a
    · subst h; rw [upd_same] at q; rw [e]; exact q
    · rw [upd_ne h] at q; exact M.same b u q
  · obtain ⟨h1, h2⟩ := M.cells b c q
    have hne : b ≠ a := fun z => by subst z; rw [hm] at q; cases q
    exact ⟨by rw [upd_ne hne]; exact h1, h2.mono le fun _ e' => e'⟩
end
end Pd
/-! Pd: the small language X, S over data, and what it does: ev, ex (predicate transformers; False where nothing is promised). -/
namespace Pd
open PySem PySem.Spec PyProof.Rows L2
inductive Bop where | add | sub | mul | fdiv | mod | pow | shl | band
  deriving DecidableEq
inductive Cop where | lt | le | gt | ge
  deriving DecidableEq
inductive Bi where | len | abs | max2 | min2 | maxl | minl | sum | all | any | list | tuple | int | str | sorted | dict | setlen | setsort | gcd
  deriving DecidableEq
inductive Ty where | int | str | list | tuple | dict | bool
  deriving DecidableEq
inductive Stp where | rev | even | odd
  deriving DecidableEq
inductive Me where | index | count | join
  deriving DecidableEq
inductive Tg where | name (i : Nat) | tup (is : List Nat)
  deriving DecidableEq
inductive X where
  | var (i : Nat) | con (c : Nat) | int (i : Int) | str (x : Str) | bl (b : Bool) | non
  | tup (xs : List X) | lst (xs : List X)
  | bin (o : Bop) (a b : X) | neg (a : X)
  | cmp (o : Cop) (a b : X) | chain (o1 o2 : Cop) (a b c : X)
  | eq (ne : Bool) (a b : X) | isN (ne : Bool) (a : X) | isB (ne : Bool) (c : Bool) (a : X) | isin (ne : Bool) (a b : X)
  | and (a b : X) | or (a b : X) | not (a : X)
  | ite (t a b : X)
  | call (f : Nat) (xs : List X) | bi (b : Bi) (xs : List X) | isi (t : Ty) (a : X)
  | ix (a i : X) | sl (a : X) (lo hi : List X) | st (k : Stp) (a : X)
  | comp (g : Tg) (own : List Nat) (it : X) (ifs : List X) (elt : X)
  | comp2 (g : Tg) (own : List Nat) (it : X) (ifs : List X) (g1 : Tg) (own1 : List Nat) (it1 : X) (ifs1 : List X) (elt : X)
  | dcomp (t : Bool) (g : Tg) (own : List Nat) (it : X) (ifs : List X) (k v : X)
  | dict0 (t : Bool) | disp (ks vs : List X)
  | get (a k : X) (d : List X)
  | me (m : Me) (a : X) (xs : List X)
  | rng (xs : List X) | rngl (xs : List X) | zip (a b : X) | enu (a : X)
inductive S where
  | set (g : Tg) (x : X) | setO (i : Nat) (x : X) | setC (i : Nat) (x : X) | par (i j : Nat) (a b : X) | par3 (i j k : Nat) (a b c : X)
  | pop (g : List Tg) (i : Nat) (ix : List X)
  | app (i : Nat) (x : X) | appPop (i : Nat) (j : Nat) (ix : List X) | ins (i : Nat) (k x : X) | ext (i : Nat) (x : X) | setI (i : Nat) (k x : X)
  | exprS (x : X)
  | ifS (t : X) (a b : List S)
  | forS (g : Tg) (it : X) (b : List S)
  | whileS (t : X) (b : List S)
  | ret (x : X) | retO (i : Nat) | retN | nev | brk | cont | pass
  | frz (i : Nat) | kill (i : Nat)

/-! ### data -/
def RV.toD : RV → D
  | .d x => x
  | .o x => x
inductive Hd where
  | d (x : D) | own (i : Nat)
/-- what a handle shows -/
def vw (r : Ro) (m : Mu) : Hd → Option D
  | .d (.cell a) => m a
  | .d x => some x
  | .own i => match r[i]? with
    | some (.ow c) => some c
    | _ => none
def kD : Key → D
  | .inl i => .int i
  | .inr x => .str x
def keyOf : D → Option Key
  | .int i => some (.inl i)
  | .str x => some (.inr x)
  | _ => none
def keysOf : List D → Option (List Key)
  | [] => some []
  | d :: ds => match keyOf d, keysOf ds with
    | some k, some ks => some (k :: ks)
    | _, _ => none
section
variable {κ : Type} [DecidableEq κ]
def valD : List κ → List D → κ → Option D
  | k :: ks, d :: ds, j => if k = j then some d else valD ks ds j
  | _, _, _ => none
def replD : List κ → List D → κ → D → List D
  | k :: ks, d :: ds, j, e => (if k = j then e else d) :: replD ks ds j e
  | _, ds, _, _ => ds
def putDs (ks : List κ) (ds : List D) (j : κ) (e : D) : List D := if j ∈ ks then replD ks ds j e else ds ++ [e]
def putKs (ks : List κ) (k : κ) : List κ := if k ∈ ks then ks else ks ++ [k]
end
/-- d[y], if the dict at hand has such keys: some none: it is not there -/
def dget : D → D → Option (Option D)
  | .dK ks ds, y => match keyOf y with
    | some k => some (valD ks ds k)
    | none => none
  | .dT ks ds, .tup false ys => match keysOf ys with
    | some k => some (valD ks ds k)
    | none => none
  | _, _ => none
def dput : D → D → D → Option D
  | .dK ks ds, y, e => match keyOf y with
    | some k => some (.dK (putKs ks k) (putDs ks ds k e))
    | none => none
  | .dT ks ds, .tup false ys, e => match keysOf ys with
    | some k => some (.dT (putKs ks k) (putDs ks ds k e))
    | none => none
  | _, _, _ => none
def dlen : D → Nat
  | .dK ks _ => ks.length
  | .dT ks _ => ks.length
  | .lst ds => ds.length
  | .tup _ ds => ds.length
  | _ => 0
mutual
def toPy : D → PyData
  | .non => .none
  | .bl b => .bool b
  | .int i => .int i
  | .str x => .str x
  | .tup _ ds => .tuple (toPys ds)
  | .lst ds => .list (toPys ds)
  | .dK _ _ => .dict []
  | .dT _ _ => .dict []
  | .cell _ => .dict []
def toPys : List D → List PyData
  | [] => []
  | d :: ds => toPy d :: toPys ds
end
/-- no dict, no cell, not deeper than n -/
def plainF : Nat → D → Bool
  | _, .non => true
  | _, .bl _ => true
  | _, .int _ => true
  | _, .str _ => true
  | n + 1, .tup _ ds => ds.all (plainF n)
  | n + 1, .lst ds => ds.all (plainF n)
  | _, _ => false
def plainD (d : D) : Bool := plainF 40 d
def plainDs (ds : List D) : Bool := ds.all (plainF 39)
mutual
def eqD : D → D → Bool
  | .non, .non => true
  | .bl a, .bl b => a == b
  | .bl a, .int j => (if a then 1 else 0) == j
  | .int i, .bl b => i == (if b then 1 else 0)
  | .int i, .int j => i == j
  | .str x, .str y => x == y
  | .lst xs, .lst ys => eqDs xs ys
  | .tup _ xs, .tup _ ys => eqDs xs ys
  | .non, .bl _ | .non, .int _ | .non, .str _ | .non, .lst _ | .non, .tup _ _ => false
  | .bl _, .non | .bl _, .str _ | .bl _, .lst _ | .bl _, .tup _ _ => false
  | .int _, .non | .int _, .str _ | .int _, .lst _ | .int _, .tup _ _ => false
  | .str _, .non | .str _, .bl _ | .str _, .int _ | .str _, .lst _ | .str _, .tup _ _ => false
  | .lst _, .non | .lst _, .bl _ | .lst _, .int _ | .lst _, .str _ | .lst _, .tup _ _ => false
  | .tup _ _, .non | .tup _ _, .bl _ | .tup _ _, .int _ | .tup _ _, .str _ | .tup _ _, .lst _ => false
  | .dK _ _, _ => false
  | .dT _ _, _ => false
  | .cell _, _ => false
  | .non, .dK _ _ | .non, .dT _ _ | .non, .cell _ => false
  | .bl _, .dK _ _ | .bl _, .dT _ _ | .bl _, .cell _ => false
  | .int _, .dK _ _ | .int _, .dT _ _ | .int _, .cell _ => false
  | .str _, .dK _ _ | .str _, .dT _ _ | .str _, .cell _ => false
  | .lst _, .dK _ _ | .lst _, .dT _ _ | .lst _, .cell _ => false
  | .tup _ _, .dK _ _ | .tup _ _, .dT _ _ | .tup _ _, .cell _ => false
def eqDs : List D → List D → Bool
  | [], [] => true
  | x :: xs, y :: ys => eqD x y && eqDs xs ys
  | [], _ :: _ => false
  | _ :: _, [] => false
end
def isTy : Ty → D → Option Bool
  | _, .cell _ => none
  | .int, .int _ => some true
  | .int, .bl _ => some true
  | .bool, .bl _ => some true
  | .str, .str _ => some true
  | .list, .lst _ => some true
  | .tuple, .tup _ _ => some true
  | .dict, .dK _ _ => some true
  | .dict, .dT _ _ => some true
  | _, _ => some false

/-! ### operations by contents: Q of what comes out -/
abbrev QR := RV → Prop
/-- a great number -/
@[irreducible] def bigN : Nat := 2 ^ 4000
theorem bigN_eq : bigN = 2 ^ 4000 := by unfold bigN; rfl
theorem pow_big {k n : Nat} (h : n < 2 ^ k) (hk : k ≤ 4000) : n < bigN := by rw [bigN_eq]; exact Nat.lt_of_lt_of_le h (Nat.pow_le_pow_right (by decide) hk)
def mulOk (i j : Int) : Prop := (-(2 ^ 64) < i ∧ i < 2 ^ 64) ∨ (-(2 ^ 64) < j ∧ j < 2 ^ 64) ∨ (i.natAbs < bigN ∧ j.natAbs < bigN)
def divOk (j : Int) : Prop := (0 < j ∧ j.natAbs < bigN) ∨ (j ≠ 0 ∧ j.natAbs < 1073741824)
def binR : Bop → D → D → QR → Prop
  | .add, .int i, .int j, Q => Q (.d (.int (i + j)))
  | .add, .str x, .str y, Q => x.length + y.length ≤ sizeLine ∧ Q (.d (.str (x ++ y)))
  | .add, .lst xs, .lst ys, Q => xs.length + ys.length ≤ sizeLine ∧ Q (.o (.lst (xs ++ ys)))
  | .add, .tup k xs, .tup _ ys, Q => xs ≠ [] ∧ xs.length + ys.length ≤ sizeLine ∧ Q (.d (.tup (k && ys.isEmpty) (xs ++ ys)))
  | .sub, .int i, .int j, Q => Q (.d (.int (i - j)))
  | .mul, .int i, .int j, Q => mulOk i j ∧ Q (.d (.int (i * j)))
  | .fdiv, .int i, .int j, Q => divOk j ∧ Q (.d (.int (i.fdiv j)))
  | .mod, .int i, .int j, Q => j ≠ 0 ∧ Q (.d (.int (i.fmod j)))
  | .pow, .int i, .int j, Q => (0 ≤ j ∧ j ≤ 1000000 ∧ i.natAbs < 2 ^ 64) ∧ Q (.d (.int (i ^ j.toNat)))
  | .shl, .int i, .int j, Q => (0 ≤ j ∧ j ≤ 1000000 ∧ i.natAbs < 2 ^ 64) ∧ Q (.d (.int (i * 2 ^ j.toNat)))
  | .band, .int i, .int j, Q => Q (.d (.int (Builtin.bitAnd i j)))
  | _, _, _, _ => False
def copB : Cop → Int → Int → Bool
  | .lt, i, j => decide (i < j)
  | .le, i, j => decide (i ≤ j)
  | .gt, i, j => decide (j < i)
  | .ge, i, j => decide (j ≤ i)
def cmpR (o : Cop) : D → D → (Bool → Prop) → Prop
  | .int i, .int j, Q => Q (copB o i j)
  | _, _, _ => False
def isinR : D → D → (Bool → Prop) → Prop
  | x, .lst ds, Q => plainD x = true ∧ plainDs ds = true ∧ Q (ds.any fun z => eqD z x)
  | x, .tup _ ds, Q => plainD x = true ∧ plainDs ds = true ∧ Q (ds.any fun z => eqD z x)
  | x, .dK ks ds, Q => ∃ o, dget (.dK ks ds) x = some o ∧ Q o.isSome
  | x, .dT ks ds, Q => ∃ o, dget (.dT ks ds) x = some o ∧ Q o.isSome
  | _, _, _ => False
def truR : D → (Bool → Prop) → Prop
  | .bl b, Q => Q b
  | .non, Q => Q false
  | .int i, Q => Q (i != 0)
  | .str x, Q => x.length ≤ sizeLine ∧ Q (x.length != 0)
  | .lst ds, Q => Q (!ds.isEmpty)
  | .tup _ ds, Q => Q (!ds.isEmpty)
  | _, _ => False
/-- the place of an index -/
def ixR : D → D → QR → Prop
  | .lst ds, .int i, Q => ∃ d, atI ds i = some d ∧ Q (.d d)
  | .tup _ ds, .int i, Q => ∃ d, atI ds i = some d ∧ Q (.d d)
  | .str z, .int i, Q => ∃ c, z.length ≤ sizeLine ∧ atI z.cps.toList i = some c ∧ Q (.d (.str ⟨#[c]⟩))
  | .dK ks ds, k, Q => ∃ d, dget (.dK ks ds) k = some (some d) ∧ Q (.d d)
  | .dT ks ds, k, Q => ∃ d, dget (.dT ks ds) k = some (some d) ∧ Q (.d d)
  | _, _, _ => False
def biR : Bi → List D → QR → Prop
  | .len, [.lst ds], Q => Q (.d (.int ds.length))
  | .len, [.tup _ ds], Q => Q (.d (.int ds.length))
  | .len, [.str x], Q => x.length ≤ sizeLine ∧ Q (.d (.int x.length))
  | .len, [.dK ks _], Q => Q (.d (.int ks.length))
  | .abs, [.int i], Q => Q (.d (.int (if i < 0 then -i else i)))
  | .max2, [.int i, .int j], Q => Q (.d (.int (if j > i then j else i)))
  | .min2, [.int i, .int j], Q => Q (.d (.int (if j < i then j else i)))
  | .maxl, [.lst ds], Q => ∃ ns : List Int, ds = ns.map .int ∧ 0 < ns.length ∧ ∀ k, k ∈ ns → (∀ y, y ∈ ns → y ≤ k) → Q (.d (.int k))
  | .minl, [.lst ds], Q => ∃ ns : List Int, ds = ns.map .int ∧ 0 < ns.length ∧ ∀ k, k ∈ ns → (∀ y, y ∈ ns → k ≤ y) → Q (.d (.int k))
  | .sum, [.lst ds], Q => ∃ ns : List Int, ds = ns.map .int ∧ Q (.d (.int ns.sum))
  | .all, [.lst ds], Q => ∃ bs : List Bool, ds = bs.map .bl ∧ Q (.d (.bl (bs.all id)))
  | .any, [.lst ds], Q => ∃ bs : List Bool, ds = bs.map .bl ∧ Q (.d (.bl (bs.any id)))
  | .list, [.lst ds], Q => Q (.o (.lst ds))
  | .list, [.tup _ ds], Q => Q (.o (.lst ds))
  | .tuple, [.lst ds], Q => Q (.d (.tup false ds))
  | .tuple, [.tup k ds], Q => Q (.d (.tup k ds))
  | .int, [.int i], Q => Q (.d (.int i))
  | .int, [.bl b], Q => Q (.d (.int (if b then 1 else 0)))
  | .str, [.int i], Q => i.natAbs.log2 < 1920 ∧ Q (.d (.str (ToString.toString i)))
  | .sorted, [.lst ds], Q => ∃ ns : List Int, ds = ns.map .int ∧ ∀ ms : List Int, ms.Perm ns → ms.Pairwise (· ≤ ·) → Q (.o (.lst (ms.map .int)))
  | .gcd, [.int i, .int j], Q => Q (.d (.int ((Nat.gcd i.natAbs j.natAbs : Nat) : Int)))
  | _, _, _ => False
def cutD {α : Type} (xs : List α) (lo hi : Option Int) : List α := (xs.drop (HT.sIx xs.length 0 lo)).take (HT.sIx xs.length xs.length hi - HT.sIx xs.length 0 lo)
def intOf : List D → Option (Option Int)
  | [] => some none
  | [.int i] => some (some i)
  | _ => none

def isiR (t : Ty) : D → QR → Prop := fun c Q => ∃ k, isTy t c = some k ∧ Q (.d (.bl k))
/-- a slice -/
def slR : D → Option Int → Option Int → QR → Prop
  | .lst ds, lo, hi, Q => Q (.o (.lst (cutD ds lo hi)))
  | .tup _ ds, lo, hi, Q => ¬ (HT.sIx ds.length 0 lo = 0 ∧ HT.sIx ds.length ds.length hi = ds.length) ∧ Q (.d (.tup false (cutD ds lo hi)))
  | .str z, lo, hi, Q => z.length ≤ sizeLine ∧ Q (.d (.str ⟨(cutD z.cps.toList lo hi).toArray⟩))
  | _, _, _, _ => False

def stR : Stp → D → QR → Prop
  | .rev, c, Q => ∃ ds, c = .lst ds ∧ Q (.o (.lst ds.reverse))
  | _, _, _ => False
/-! ### expressions -/
abbrev QX := RV → Mu → Prop
structure Ev where
  x : Ro → Mu → QX → Prop
  t : Ro → Mu → (Bool → Mu → Prop) → Prop
  it : Ro → Mu → (List D → Mu → Prop) → Prop
  h : Ro → Mu → (Hd → Mu → Prop) → Prop
/-- the content a handle shows, for Q -/
def sees (r : Ro) (m : Mu) (g : Hd) (Q : D → Prop) : Prop := match vw r m g with
  | some c => Q c
  | none => False
/-- what a for walks over frozen data -/
def itemsD : D → Option (List D)
  | .lst ds => some ds
  | .tup _ ds => some ds
  | .str z => some (z.cps.toList.map fun c => .str ⟨#[c]⟩)
  | .dK ks _ => some (ks.map kD)
  | .dT ks _ => some (ks.map fun k => .tup false (k.map kD))
  | _ => none
def tOfH (h : Ro → Mu → (Hd → Mu → Prop) → Prop) : Ro → Mu → (Bool → Mu → Prop) → Prop := fun r m Q => h r m fun g m' => sees r m' g fun c => truR c fun b => Q b m'
def itOfX (x : Ro → Mu → QX → Prop) : Ro → Mu → (List D → Mu → Prop) → Prop := fun r m Q => x r m fun v m' => ∃ ds, itemsD v.toD = some ds ∧ Q ds m'
/-- an expression by its value -/
def Ev.of (x : Ro → Mu → QX → Prop) : Ev where
  x := x
  t := tOfH fun r m Q => x r m fun v m' => Q (.d v.toD) m'
  it := itOfX x
  h := fun r m Q => x r m fun v m' => Q (.d v.toD) m'
def varX (i : Nat) : Ro → Mu → QX → Prop := fun r m Q => match r[i]? with
  | some (.fz d) => Q (.d d) m
  | _ => False
def varH (i : Nat) : Ro → Mu → (Hd → Mu → Prop) → Prop := fun r m Q => match r[i]? with
  | some (.fz d) => Q (.d d) m
  | some (.ow _) => Q (.own i) m
  | _ => False
def isNon : Hd → Bool
  | .d .non => true
  | _ => false
def isBl (c : Bool) : Hd → Bool
  | .d (.bl b) => b == c
  | _ => false
/-- Bool in the place of a value -/
def bl (t : Ro → Mu → (Bool → Mu → Prop) → Prop) : Ro → Mu → QX → Prop := fun r m Q => t r m fun b m' => Q (.d (.bl b)) m'
/-- an expression by its truth -/
def Ev.ofT (t : Ro → Mu → (Bool → Mu → Prop) → Prop) : Ev where
  x := bl t
  t := t
  it := fun _ _ _ => False
  h := fun r m Q => t r m fun b m' => Q (.d (.bl b)) m'
def bin2T (a b : Ev) (f : D → D → (Bool → Prop) → Prop) : Ro → Mu → (Bool → Mu → Prop) → Prop := fun r m Q => a.h r m fun g m1 => b.h r m1 fun g2 m2 => sees r m2 g fun x => sees r m2 g2 fun y => f x y fun v => Q v m2
def un1 (a : Ev) (f : D → QR → Prop) : Ro → Mu → QX → Prop := fun r m Q => a.h r m fun g m1 => sees r m1 g fun x => f x fun v => Q v m1
def bin2 (a b : Ev) (f : D → D → QR → Prop) : Ro → Mu → QX → Prop := fun r m Q => a.h r m fun g m1 => b.h r m1 fun g2 m2 => sees r m2 g fun x => sees r m2 g2 fun y => f x y fun v => Q v m2
/-- contents of several handles -/
def seesL (r : Ro) (m : Mu) : List Hd → (List D → Prop) → Prop
  | [], Q => Q []
  | g :: gs, Q => sees r m g fun c => seesL r m gs fun cs => Q (c :: cs)
def tgR : Tg → D → Ro → (Ro → Prop) → Prop
  | .name i, d, r, Q => Q (r.set i (.fz d))
  | .tup is, .tup _ ds, r, Q => ds.length = is.length ∧ Q ((is.zip ds).foldl (fun r p => r.set p.1 (.fz p.2)) r)
  | _, _, _, _ => False
def wipeR (r : Ro) : List Nat → Ro
  | [] => r
  | v :: vs => (wipeR r vs).set v .un
/-- the turns of a comprehension -/
def compL (g : Tg) (own : List Nat) (t : Ro → Mu → (Bool → Mu → Prop) → Prop) (e : Ro → Mu → (D → Mu → Prop) → Prop) (r : Ro) : List D → List D → Mu → (List D → Mu → Prop) → Prop
  | [], acc, m, Q => Q acc m
  | x :: xs, acc, m, Q => tgR g x (wipeR r own) fun r2 => t r2 m fun b m1 =>
    if b = true then e r2 m1 fun d m2 => acc.length < sizeLine ∧ compL g own t e r xs (acc ++ [d]) m2 Q else compL g own t e r xs acc m1 Q
/-- the same with what each item adds given by e: several items (two clauses) -/
def compL2 (g : Tg) (own : List Nat) (t : Ro → Mu → (Bool → Mu → Prop) → Prop) (e : Ro → List D → Mu → (List D → Mu → Prop) → Prop) (r : Ro) : List D → List D → Mu → (List D → Mu → Prop) → Prop
  | [], acc, m, Q => Q acc m
  | x :: xs, acc, m, Q => tgR g x (wipeR r own) fun r2 => t r2 m fun b m1 =>
    if b = true then e r2 acc m1 fun acc2 m2 => compL2 g own t e r xs acc2 m2 Q else compL2 g own t e r xs acc m1 Q
/-- the turns of a dict's comprehension -/
def dcompL (g : Tg) (own : List Nat) (t : Ro → Mu → (Bool → Mu → Prop) → Prop) (e : Ro → Mu → (D → D → Mu → Prop) → Prop) (r : Ro) : List D → D → Mu → (D → Mu → Prop) → Prop
  | [], acc, m, Q => Q acc m
  | x :: xs, acc, m, Q => tgR g x (wipeR r own) fun r2 => t r2 m fun b m1 =>
    if b = true then e r2 m1 fun k d m2 => ∃ acc2, dlen acc < sizeLine ∧ dput acc k d = some acc2 ∧ dcompL g own t e r xs acc2 m2 Q else dcompL g own t e r xs acc m1 Q
def tAll : List Ev → Ro → Mu → (Bool → Mu → Prop) → Prop
  | [], _, m, Q => Q true m
  | a :: _, r, m, Q => a.t r m Q
/-- a slice's part, left out or an int -/
def part : List Ev → Ro → Mu → (Option Int → Mu → Prop) → Prop
  | [], _, m, Q => Q none m
  | a :: _, r, m, Q => a.x r m fun v m1 => ∃ i, v.toD = .int i ∧ Q (some i) m1
def dK0 (t : Bool) : D := if t then .dT [] [] else .dK [] []
/-- the numbers of a range -/
def rngD (lo hi : Int) : List D := (List.range (hi - lo).toNat).map fun (k : Nat) => .int (lo + (k : Int))
def rng3D (lo hi c : Int) : List D := (List.range (if c = 2 then ((hi - lo + 1) / 2).toNat else (lo - hi).toNat)).map fun (k : Nat) => .int (lo + (k : Int) * c)
def smallI (i : Int) : Prop := -(2 ^ 62) ≤ i ∧ i < 2 ^ 62
def rngR : List D → (List D → Prop) → Prop
  | [.int j], Q => smallI j ∧ Q (rngD 0 j)
  | [.int i, .int j], Q => smallI i ∧ smallI j ∧ Q (rngD i j)
  | [.int i, .int j, .int c], Q => smallI i ∧ smallI j ∧ (c = -1 ∨ c = 2) ∧ Q (rng3D i j c)
  | _, _ => False
def onlyIt (f : Ro → Mu → (List D → Mu → Prop) → Prop) : Ev where
  x := fun _ _ _ => False
  t := fun _ _ _ => False
  it := f
  h := fun _ _ _ => False
def zipD : List D → List D → List D
  | x :: xs, y :: ys => .tup false [x, y] :: zipD xs ys
  | _, _ => []
def enuD : Nat → List D → List D
  | _, [] => []
  | n, x :: xs => .tup false [.int n, x] :: enuD (n + 1) xs
section
variable (cal : Nat → List D → Mu → QX → Prop) (cs : List D)
mutual
def ev : X → Ev
  | .var i => { x := varX i, t := tOfH (varH i), it := itOfX (varX i), h := varH i }
  | .con c => .of fun r m Q => ∃ d, cs[c]? = some d ∧ Q (.d d) m
  | .int i => .of fun r m Q => Q (.d (.int i)) m
  | .str x => .of fun r m Q => Q (.d (.str x)) m
  | .bl b => .of fun r m Q => Q (.d (.bl b)) m
  | .non => .of fun r m Q => Q (.d .non) m
  | .tup xs => .of fun r m Q => evs xs r m fun ds m1 => ds.length ≤ sizeLine ∧ Q (.d (.tup false ds)) m1
  | .lst xs => .of fun r m Q => evs xs r m fun ds m1 => ds.length ≤ sizeLine ∧ Q (.o (.lst ds)) m1
  | .bin o a b => .of (bin2 (ev a) (ev b) (binR o))
  | .neg a => .of (un1 (ev a) fun c Q => ∃ i, c = .int i ∧ Q (.d (.int (-i))))
  | .cmp o a b => .ofT (bin2T (ev a) (ev b) (cmpR o))
  | .chain o1 o2 a b c => .ofT fun r m Q => (ev a).h r m fun g m1 => (ev b).h r m1 fun g2 m2 => sees r m2 g fun x => sees r m2 g2 fun y => cmpR o1 x y fun k =>
      if k = true then (ev c).h r m2 fun g3 m3 => sees r m3 g2 fun y => sees r m3 g3 fun z => cmpR o2 y z fun k2 => Q k2 m3 else Q false m2
  | .eq ne a b => .ofT (bin2T (ev a) (ev b) fun x y Q => plainD x = true ∧ plainD y = true ∧ Q (if ne then !eqD x y else eqD x y))
  | .isN ne a => .ofT fun r m Q => (ev a).h r m fun g m1 => Q (if ne then !isNon g else isNon g) m1
  | .isB ne c a => .ofT fun r m Q => (ev a).h r m fun g m1 => Q (if ne then !isBl c g else isBl c g) m1
  | .isin ne a b => .ofT (bin2T (ev a) (ev b) fun x y Q => isinR x y fun k => Q (if ne then !k else k))
  | .and a b => { Ev.of (fun r m Q => (ev a).x r m fun v m1 => ∃ k, v = .d (.bl k) ∧ if k = true then (ev b).x r m1 Q else Q (.d (.bl false)) m1) with
      t := fun r m Q => (ev a).t r m fun k m1 => if k = true then (ev b).t r m1 Q else Q false m1 }
  | .or a b => { Ev.of (fun r m Q => (ev a).x r m fun v m1 => ∃ k, v = .d (.bl k) ∧ if k = true then Q (.d (.bl true)) m1 else (ev b).x r m1 Q) with
      t := fun r m Q => (ev a).t r m fun k m1 => if k = true then Q true m1 else (ev b).t r m1 Q }
  | .not a => { Ev.of (fun r m Q => (ev a).x r m fun v m1 => ∃ k, v = .d (.bl k) ∧ Q (.d (.bl (!k))) m1) with
      t := fun r m Q => (ev a).t r m fun k m1 => Q (!k) m1 }
  | .ite t a b => { Ev.of (fun r m Q => (ev t).t r m fun k m1 => if k = true then (ev a).x r m1 Q else (ev b).x r m1 Q) with t := fun _ _ _ => False }
  | .call f xs => .of fun r m Q => evs xs r m fun ds m1 => cal f ds m1 Q
  | .bi b xs => .of fun r m Q => evh xs r m fun gs m1 => seesL r m1 gs fun cs => biR b cs fun v => Q v m1
  | .isi t a => .ofT fun r m Q => (ev a).h r m fun g m1 => sees r m1 g fun c => ∃ k, isTy t c = some k ∧ Q k m1
  | .ix a i => .of (bin2 (ev a) (ev i) ixR)
  | .sl a lo hi => .of fun r m Q => (ev a).h r m fun g m1 => part (evl lo) r m1 fun l m2 => part (evl hi) r m2 fun u m3 => sees r m3 g fun c => slR c l u fun v => Q v m3
  | .st k a => .of (un1 (ev a) (stR k))
  | .comp g own it ifs elt => .of fun r m Q => (ev it).it r m fun ds m1 => compL g own (tAll (evl ifs)) (fun r2 m2 Q2 => (ev elt).x r2 m2 fun v m3 => Q2 v.toD m3) r ds [] m1 fun acc m2 => Q (.o (.lst acc)) m2
  | .comp2 g own it ifs g1 own1 it1 ifs1 elt => .of fun r m Q => (ev it).it r m fun ds m1 => compL2 g own (tAll (evl ifs)) (fun r2 acc m2 Q2 => (ev it1).it r2 m2 fun ds2 m3 => compL g1 own1 (tAll (evl ifs1)) (fun r3 m4 Q3 => (ev elt).x r3 m4 fun v m5 => Q3 v.toD m5) r2 ds2 acc m3 Q2) r ds [] m1 fun acc m2 => Q (.o (.lst acc)) m2
  | .dcomp t g own it ifs k v => .of fun r m Q => (ev it).it r m fun ds m1 => dcompL g own (tAll (evl ifs)) (fun r2 m2 Q2 => (ev k).x r2 m2 fun a m3 => (ev v).x r2 m3 fun b m4 => Q2 a.toD b.toD m4) r ds (dK0 t) m1 fun acc m2 => Q (.o acc) m2
  | .dict0 t => .of fun r m Q => Q (.o (dK0 t)) m
  | .disp ks vs => onlyIt fun _ _ _ => False
  | .get a k d => .of fun r m Q => (ev a).h r m fun g m1 => (ev k).x r m1 fun y m2 => evs d r m2 fun z m3 => sees r m3 g fun c => ∃ o, dget c y.toD = some o ∧ match o, z with
    | some v, _ => Q (.d v) m3
    | none, [] => Q (.d .non) m3
    | none, [v] => Q (.d v) m3
    | _, _ => False
  | .me k a xs => .of fun r m Q => (ev a).h r m fun g m1 => evs xs r m1 fun ds m2 => sees r m2 g fun c => match k, c, ds with
    | .index, .lst xs, [y] => plainD y = true ∧ plainDs xs = true ∧ ∃ (j : Nat) (z : D), xs[j]? = some z ∧ eqD z y = true ∧ (∀ i w, i < j → xs[i]? = some w → eqD w y = false) ∧ Q (.d (.int j)) m2
    | .join, .str sep, [.lst ys] => ∃ zs : List Str, ys = zs.map .str ∧ (zs.map (·.length)).sum + zs.length * sep.length ≤ sizeLine ∧ Q (.d (.str (Str.join sep zs))) m2
    | _, _, _ => False
  | .rng xs => onlyIt fun r m Q => evs xs r m fun ds m1 => rngR ds fun is => Q is m1
  | .rngl xs => .of fun r m Q => evs xs r m fun ds m1 => rngR ds fun is => is.length ≤ sizeLine ∧ Q (.o (.lst is)) m1
  | .zip a b => onlyIt fun r m Q => (ev a).x r m fun u m1 => (ev b).x r m1 fun v m2 => ∃ xs ys, u.toD = .lst xs ∧ v.toD = .lst ys ∧ Q (zipD xs ys) m2
  | .enu a => onlyIt fun r m Q => (ev a).x r m fun u m1 => ∃ xs, u.toD = .lst xs ∧ Q (enuD 0 xs) m1
def evs : List X → Ro → Mu → (List D → Mu → Prop) → Prop
  | [] => fun r m Q => Q [] m
  | x :: xs => fun r m Q => (ev x).x r m fun v m1 => evs xs r m1 fun ds m2 => Q (v.toD :: ds) m2
def evh : List X → Ro → Mu → (List Hd → Mu → Prop) → Prop
  | [] => fun r m Q => Q [] m
  | x :: xs => fun r m Q => (ev x).h r m fun g m1 => evh xs r m1 fun gs m2 => Q (g :: gs) m2
def evl : List X → List Ev
  | [] => []
  | x :: xs => ev x :: evl xs
end
end

/-! ### statements -/
structure En where
  m0 : Mu
  nx : Ro → Mu → Prop
  rt : RV → Mu → Prop
  bk : Ro → Mu → Prop := fun _ _ => False
  ct : Ro → Mu → Prop := fun _ _ => False
def forL (f : En → Ro → Mu → Prop) (g : Tg) : List D → En → Ro → Mu → Prop
  | [], E, r, m => E.nx r m
  | x :: xs, E, r, m => tgR g x r fun r1 => f { E with nx := forL f g xs E, ct := forL f g xs E, bk := E.nx } r1 m
def whileN (t : Ro → Mu → (Bool → Mu → Prop) → Prop) (f : En → Ro → Mu → Prop) : Nat → En → Ro → Mu → Prop
  | 0, _, _, _ => False
  | n + 1, E, r, m => t r m fun b m1 => if b = true then f { E with nx := whileN t f n E, ct := whileN t f n E, bk := E.nx } r m1 else E.nx r m1
/-- what a name's slot holds, as a thing to be changed -/
def hdlR (r : Ro) (i : Nat) (Q : Hd → Prop) : Prop := match r[i]? with
  | some (.fz (.cell a)) => Q (.d (.cell a))
  | some (.ow _) => Q (.own i)
  | _ => False
def isLst : D → Bool
  | .lst _ => true
  | _ => false
/-- a changed object: a slot's own, or a cell -/
def putH (r : Ro) (m : Mu) (g : Hd) (c : D) (Q : Ro → Mu → Prop) : Prop := match g with
  | .own i => Q (r.set i (.ow c)) m
  | .d (.cell a) => Q r (mset m a (some c))
  | _ => False
/-- y = own_i.pop(..): what comes, what stays -/
def popR (r : Ro) (i : Nat) (k : Option Int) (Q : D → List D → Prop) : Prop := match r[i]?, k with
  | some (.ow (.lst ds)), none => ∃ d, ds[ds.length - 1]? = some d ∧ Q d ds.dropLast
  | some (.ow (.lst ds)), some k => ∃ d, 0 ≤ k ∧ k < 2 ^ 62 ∧ ds[k.toNat]? = some d ∧ Q d (ds.eraseIdx k.toNat)
  | _, _ => False
def isOwnL (r : Ro) (i : Nat) : Bool := match r[i]? with
  | some (.ow (.lst _)) => true
  | _ => false
section
variable (cal : Nat → List D → Mu → QX → Prop) (cs : List D)
mutual
def ex : S → En → Ro → Mu → Prop
  | .set g x => fun E r m => (ev cal cs x).x r m fun v m1 => tgR g v.toD r fun r1 => E.nx r1 m1
  | .setO i x => fun E r m => (ev cal cs x).x r m fun v m1 => match v with
    | .o c => E.nx (r.set i (.ow c)) m1
    | _ => False
  | .setC i x => fun E r m => (ev cal cs x).x r m fun v m1 => match v with
    | .o c => ∀ p, m1 p = none → E.nx (r.set i (.fz (.cell p))) (mset m1 p (some c))
    | _ => False
  | .par i j a b => fun E r m => evs cal cs [a, b] r m fun ds m1 => match ds with
    | [x, y] => E.nx ((r.set i (.fz x)).set j (.fz y)) m1
    | _ => False
  | .par3 i j k a b c => fun E r m => evs cal cs [a, b, c] r m fun ds m1 => match ds with
    | [x, y, z] => E.nx (((r.set i (.fz x)).set j (.fz y)).set k (.fz z)) m1
    | _ => False
  | .pop g i ix => fun E r m => isOwnL r i = true ∧ evs cal cs ix r m fun ds m1 => ∃ k, intOf ds = some k ∧ popR r i k fun d l => match g with
    | [] => E.nx (r.set i (.ow (.lst l))) m1
    | g :: _ => tgR g d (r.set i (.ow (.lst l))) fun r2 => E.nx r2 m1
  | .app i x => fun E r m => hdlR r i fun g => sees r m g (fun c => isLst c = true) ∧ (ev cal cs x).x r m fun v m2 => sees r m2 g fun c => match c with
    | .lst ds => ds.length < sizeLine ∧ putH r m2 g (.lst (ds ++ [v.toD])) E.nx
    | _ => False
  | .appPop i j ix => fun E r m => hdlR r i fun g => sees r m g (fun c => isLst c = true) ∧ isOwnL r j = true ∧ i ≠ j ∧ evs cal cs ix r m fun ds m2 => ∃ k, intOf ds = some k ∧ popR r j k fun d l => sees (r.set j (.ow (.lst l))) m2 g fun c => match c with
    | .lst ds => ds.length < sizeLine ∧ putH (r.set j (.ow (.lst l))) m2 g (.lst (ds ++ [d])) E.nx
    | _ => False
  | .ins i k x => fun E r m => hdlR r i fun g => sees r m g (fun c => isLst c = true) ∧ evs cal cs [k, x] r m fun ds m2 => sees r m2 g fun c => match c, ds with
    | .lst xs, [.int k, y] => xs.length < sizeLine ∧ 0 ≤ k ∧ k ≤ xs.length ∧ putH r m2 g (.lst (xs.take k.toNat ++ y :: xs.drop k.toNat)) E.nx
    | _, _ => False
  | .ext i x => fun E r m => hdlR r i fun g => sees r m g (fun c => isLst c = true) ∧ (ev cal cs x).x r m fun v m2 => sees r m2 g fun c => match c, v with
    | .lst xs, .o (.lst ys) => xs.length + ys.length ≤ sizeLine ∧ putH r m2 g (.lst (xs ++ ys)) E.nx
    | _, _ => False
  | .setI i k x => fun E r m => (ev cal cs x).x r m fun v m1 => hdlR r i fun g => (ev cal cs k).x r m1 fun k m3 => sees r m3 g fun c => match c with
    | .lst xs => ∃ i j, k.toD = .int i ∧ ixN xs.length i = some j ∧ putH r m3 g (.lst (xs.set j v.toD)) E.nx
    | .dK ks ds => ∃ c2, ks.length < sizeLine ∧ dput (.dK ks ds) k.toD v.toD = some c2 ∧ putH r m3 g c2 E.nx
    | .dT ks ds => ∃ c2, ks.length < sizeLine ∧ dput (.dT ks ds) k.toD v.toD = some c2 ∧ putH r m3 g c2 E.nx
    | _ => False
  | .exprS x => fun E r m => (ev cal cs x).x r m fun _ m1 => E.nx r m1
  | .ifS t a b => fun E r m => (ev cal cs t).t r m fun k m1 => if k = true then exs a E r m1 else exs b E r m1
  | .forS g it b => fun E r m => (ev cal cs it).it r m fun ds m1 => forL (exs b) g ds E r m1
  | .whileS t b => fun E r m => ∃ n, whileN (ev cal cs t).t (exs b) n E r m
  | .ret x => fun E r m => (ev cal cs x).x r m E.rt
  | .retO i => fun E r m => match r[i]? with
    | some (.ow c) => E.rt (.o c) m
    | _ => False
  | .retN => fun E r m => E.rt (.d .non) m
  | .nev => fun _ _ _ => False
  | .brk => fun E r m => E.bk r m
  | .cont => fun E r m => E.ct r m
  | .pass => fun E r m => E.nx r m
  | .frz i => fun E r m => match r[i]? with
    | some (.ow c) => E.nx (r.set i (.fz c)) m
    | some (.fz d) => E.nx r m
    | _ => False
  | .kill i => fun E r m => match r[i]? with
    | some (.fz (.cell a)) => E.m0 a = none ∧ E.nx (r.set i .un) (mset m a none)
    | _ => False
def exs : List S → En → Ro → Mu → Prop
  | [] => fun E r m => E.nx r m
  | s :: ss => fun E r m => ex s { E with nx := exs ss E } r m
end
end
structure Fn where
  np : Nat
  ns : Nat
  body : List S
/-- a call of the def f with data, n calls deep -/
def callN0 (T : List Fn) (cs : List D) : Nat → Nat → List D → Mu → QX → Prop
  | 0 => fun _ _ _ _ => False
  | n + 1 => fun f ds m Q => ∃ F, T[f]? = some F ∧ ds.length = F.np ∧ exs (callN0 T cs n) cs F.body { m0 := m, nx := fun _ m' => Q (.d .non) m', rt := Q } (ds.map SV.fz ++ List.replicate (F.ns - F.np) SV.un) m
@[irreducible] def callN (T : List Fn) (cs : List D) (n : Nat) : Nat → List D → Mu → QX → Prop := callN0 T cs n
theorem callN_z {T : List Fn} {cs : List D} {f : Nat} {ds : List D} {m : Mu} {Q : QX} (h : callN T cs 0 f ds m Q) : False := by
  unfold callN at h
  exact h
theorem callN_s {T : List Fn} {cs : List D} {n f : Nat} {ds : List D} {m : Mu} {Q : QX} : callN T cs (n + 1) f ds m Q = ∃ F, T[f]? = some F ∧ ds.length = F.np ∧ exs (callN T cs n) cs F.body { m0 := m, nx := fun _ m' => Q (.d .non) m', rt := Q } (ds.map SV.fz ++ List.replicate (F.ns - F.np) SV.un) m := by
  unfold callN
  rfl
end Pd
/-! Pd: readings by data, and the rules of operators. -/
namespace Pd
open PySem PySem.Spec PyProof.Rows L2
def HdOk (K : PySem.W.Frag) (F : Hp) (r : Ro) (σ : L2.St) : Hd → V → Prop
  | .d x, v => Rep K F x v
  | .own i, v => σ[i]? = some (some v) ∧ ∃ c, r[i]? = some (SV.ow c)
theorem HdOk.mono {K : PySem.W.Frag} {F F' : Hp} {r : Ro} {σ : L2.St} (h : Le F F') : ∀ {g : Hd} {v : V}, HdOk K F r σ g v → HdOk K F' r σ g v
  | .d _, _, q => Rep.mono h q
  | .own _, _, q => q
theorem vw_d {r : Ro} {m : Mu} {x : D} (h : noCell x = true) : vw r m (.d x) = some x := by cases x <;> first | rfl | cases h
theorem seesE {r : Ro} {m : Mu} {g : Hd} {Q : D → Prop} (h : sees r m g Q) : ∃ c, vw r m g = some c ∧ Q c := by
  unfold sees at h
  split at h
  · next c e => exact ⟨c, e, h⟩
  · exact h.elim
/-- what a handle shows is there -/
theorem Sb.see {K : PySem.W.Frag} {B : Bs} {F : Hp} {r : Ro} {m : Mu} {σ : L2.St} {H : Hp} (S : Sb K B F r m σ H) {g : Hd} {v : V} {c : D} (h : HdOk K F r σ g v) (e : vw r m g = some c) : Vw K F H c v := by
  cases g with
  | own i =>
    obtain ⟨e1, c', e2⟩ := h
    have e3 : vw r m (.own i) = some c' := by
      show (match r[i]? with | some (.ow c) => some c | _ => none) = some c'
      rw [e2]
    rw [e3] at e
    cases e
    obtain ⟨o, eo, a, ea, _, _, _, ho⟩ := S.sl i _ e2
    rw [eo] at e1
    have e4 : o = some v := Option.some.inj e1
    rw [ea] at e4
    cases e4
    exact ho.vw
  | d x =>
    cases x with
    | cell a =>
      have e1 : m a = some c := e
      have hv : v = .ref a := by
        have h' : Rep K F (.cell a) v := h
        rw [Rep] at h'
        exact h'
      rw [hv]
      exact (S.mem.cells a c e1).2.vw
    | non => cases e; exact Rep.vw S.mem.same h rfl
    | bl b => cases e; exact Rep.vw S.mem.same h rfl
    | int b => cases e; exact Rep.vw S.mem.same h rfl
    | str b => cases e; exact Rep.vw S.mem.same h rfl
    | tup k b => cases e; exact Rep.vw S.mem.same h rfl
    | lst b => cases e; exact Rep.vw S.mem.same h rfl
    | dK b c => cases e; exact Rep.vw S.mem.same h rfl
    | dT b c => cases e; exact Rep.vw S.mem.same h rfl

/-! ### what stands behind an evaluation -/
def PoX (K : PySem.W.Frag) (F : Hp) (m : Mu) (H : Hp) (Q : QX) (v : V) (H' : Hp) : Prop :=
  ∃ F' m' rv, Ext F m H F' m' H' ∧ Mem K F' m' H' ∧ RVr K F' m' H H' rv v ∧ Q rv m'
def PoH (K : PySem.W.Frag) (r : Ro) (σ : L2.St) (F : Hp) (m : Mu) (H : Hp) (Q : Hd → Mu → Prop) (v : V) (H' : Hp) : Prop :=
  ∃ F' m' g, Ext F m H F' m' H' ∧ Mem K F' m' H' ∧ HdOk K F' r σ g v ∧ Q g m'
def PoD (K : PySem.W.Frag) (F : Hp) (m : Mu) (H : Hp) (Q : D → Mu → Prop) (v : V) (H' : Hp) : Prop :=
  ∃ F' m' d, Ext F m H F' m' H' ∧ Mem K F' m' H' ∧ Rep K F' d v ∧ Q d m'
def PoT (K : PySem.W.Frag) (F : Hp) (m : Mu) (H : Hp) (Q : Bool → Mu → Prop) (b : Bool) (H' : Hp) : Prop :=
  ∃ F' m', Ext F m H F' m' H' ∧ Mem K F' m' H' ∧ Q b m'
def PoL (K : PySem.W.Frag) (F : Hp) (m : Mu) (H : Hp) (Q : List D → Mu → Prop) (vs : List V) (H' : Hp) : Prop :=
  ∃ F' m' ds, Ext F m H F' m' H' ∧ Mem K F' m' H' ∧ Reps K F' ds vs ∧ Q ds m'
inductive HdsOk (K : PySem.W.Frag) (F : Hp) (r : Ro) (σ : L2.St) : List Hd → List V → Prop
  | nil : HdsOk K F r σ [] []
  | cons {g : Hd} {gs : List Hd} {v : V} {vs : List V} : HdOk K F r σ g v → HdsOk K F r σ gs vs → HdsOk K F r σ (g :: gs) (v :: vs)
def PoG (K : PySem.W.Frag) (r : Ro) (σ : L2.St) (F : Hp) (m : Mu) (H : Hp) (Q : List Hd → Mu → Prop) (vs : List V) (H' : Hp) : Prop :=
  ∃ F' m' gs, Ext F m H F' m' H' ∧ Mem K F' m' H' ∧ HdsOk K F' r σ gs vs ∧ Q gs m'
abbrev FX := Ro → Mu → QX → Prop
abbrev FH := Ro → Mu → (Hd → Mu → Prop) → Prop
abbrev FD := Ro → Mu → (D → Mu → Prop) → Prop
abbrev FT := Ro → Mu → (Bool → Mu → Prop) → Prop
abbrev FL := Ro → Mu → (List D → Mu → Prop) → Prop
abbrev FG := Ro → Mu → (List Hd → Mu → Prop) → Prop
def tX (K : PySem.W.Frag) (f : FX) : TE := fun σ H Qv => ∃ B F r m Q, Sb K B F r m σ H ∧ f r m Q ∧ ∀ v H', PoX K F m H Q v H' → Qv v H'
def tH (K : PySem.W.Frag) (f : FH) : TE := fun σ H Qv => ∃ B F r m Q, Sb K B F r m σ H ∧ f r m Q ∧ ∀ v H', PoH K r σ F m H Q v H' → Qv v H'
def tD (K : PySem.W.Frag) (f : FD) : TE := fun σ H Qv => ∃ B F r m Q, Sb K B F r m σ H ∧ f r m Q ∧ ∀ v H', PoD K F m H Q v H' → Qv v H'
def tT (K : PySem.W.Frag) (f : FT) : TT := fun σ H Qv => ∃ B F r m Q, Sb K B F r m σ H ∧ f r m Q ∧ ∀ b H', PoT K F m H Q b H' → Qv b H'
def tL (K : PySem.W.Frag) (f : FL) : TA := fun σ H Qv => ∃ B F r m Q, Sb K B F r m σ H ∧ f r m Q ∧ ∀ v H', PoL K F m H Q v H' → Qv v H'
def tG (K : PySem.W.Frag) (f : FG) : TA := fun σ H Qv => ∃ B F r m Q, Sb K B F r m σ H ∧ f r m Q ∧ ∀ v H', PoG K r σ F m H Q v H' → Qv v H'
abbrev PX (X : Cx) (e : Expr) (f : FX) : Prop := PE X e (tX X.K f)
abbrev PH (X : Cx) (e : Expr) (f : FH) : Prop := PE X e (tH X.K f)
abbrev PD (X : Cx) (e : Expr) (f : FD) : Prop := PE X e (tD X.K f)
theorem PEi {X : Cx} {e : Expr} {t t' : TE} (h : PE X e t) (q : ∀ σ H Q, t' σ H Q → t σ H Q) : PE X e t' := ⟨fun pins s σ H Q I z => h.run pins s σ H Q I (q _ _ _ z)⟩
theorem PTi {X : Cx} {e : Expr} {t t' : TT} (h : PT X e t) (q : ∀ σ H Q, t' σ H Q → t σ H Q) : PT X e t' := ⟨fun pins s σ H Q I z => h.run pins s σ H Q I (q _ _ _ z)⟩
theorem PWi {X : Cx} {e : Expr} {t t' : TT} (h : PW X e t) (q : ∀ σ H Q, t' σ H Q → t σ H Q) : PW X e t' := ⟨fun wh pins s σ H Q I z => h.run wh pins s σ H Q I (q _ _ _ z)⟩
theorem PAi {X : Cx} {es : List Expr} {t t' : TA} (h : PA X es t) (q : ∀ σ H Q, t' σ H Q → t σ H Q) : PA X es t' := ⟨fun pos pins s σ H Q I z => h.run pos pins s σ H Q I (q _ _ _ z)⟩

/-- what an evaluation gave is frozen -/
def toD (f : FX) : FD := fun r m Q => f r m fun v m' => Q v.toD m'
theorem PoX.frz {K : PySem.W.Frag} {F : Hp} {m : Mu} {H : Hp} {Q : QX} {Q' : D → Mu → Prop} {v : V} {H' : Hp} (h : PoX K F m H Q v H') (q : ∀ rv m', Q rv m' → Q' rv.toD m') : PoD K F m H Q' v H' := by
  obtain ⟨F', m', rv, E, M, R, q1⟩ := h
  cases rv with
  | d x => exact ⟨F', m', x, E, M, R, q _ _ q1⟩
  | o c =>
    obtain ⟨a, rfl, hF, hm, h0, ho⟩ := R
    obtain ⟨o, eo, nt, mu⟩ := ho.some
    refine ⟨upd F' a o, m', c, ?_, M.frz hF hm eo, ho.freeze hF eo, q _ _ q1⟩
    have le : Le F' (upd F' a o) := .of fun b u q => by rw [upd_ne (ne_of_none q hF)]; exact q
    exact ⟨E.le.trans le, fun b u e1 e2 n => by rw [upd_ne (ne_of_none e2 h0)]; exact E.fn b u e1 e2 n, E.hh, E.st, E.nw, E.ce⟩
theorem px_d {X : Cx} {e : Expr} {f : FX} (h : PX X e f) : PD X e (toD f) := PEi h fun σ H Qv ⟨B, F, r, m, Q, S, w, k⟩ =>
  ⟨B, F, r, m, fun rv m' => Q rv.toD m', S, w, fun v H' p => k v H' (p.frz fun _ _ q => q)⟩
/-- .. is a handle -/
def toH (f : FX) : FH := fun r m Q => f r m fun v m' => Q (.d v.toD) m'
theorem px_h {X : Cx} {e : Expr} {f : FX} (h : PX X e f) : PH X e (toH f) := PEi h fun σ H Qv ⟨B, F, r, m, Q, S, w, k⟩ =>
  ⟨B, F, r, m, fun rv m' => Q (.d rv.toD) m', S, w, fun v H' p => by
    obtain ⟨F', m', d, E, M, R, q⟩ := p.frz (Q' := fun d m' => Q (.d d) m') fun _ _ q => q
    exact k v H' ⟨F', m', .d d, E, M, R, q⟩⟩
/-! ### names, constants -/
theorem px_var {X : Cx} {x : Str} {pos : Pos} {i : Nat} (h : PE X (.Name x pos) (tVar i)) : PX X (.Name x pos) (varX i) := PEi h fun σ H Qv ⟨B, F, r, m, Q, S, w, k⟩ => by
  unfold varX at w
  cases e : r[i]? with
  | none => rw [e] at w; exact w.elim
  | some sv =>
    rw [e] at w
    cases sv with
    | fz d =>
      obtain ⟨o, eo, v, ev, rp⟩ := S.sl i _ e
      subst ev
      exact ⟨v, eo, k v H ⟨F, m, .d d, .refl, S.mem, rp, w⟩⟩
    | un => exact w.elim
    | ow c => exact w.elim
theorem ph_var {X : Cx} {x : Str} {pos : Pos} {i : Nat} (h : PE X (.Name x pos) (tVar i)) : PH X (.Name x pos) (varH i) := PEi h fun σ H Qv ⟨B, F, r, m, Q, S, w, k⟩ => by
  unfold varH at w
  cases e : r[i]? with
  | none => rw [e] at w; exact w.elim
  | some sv =>
    rw [e] at w
    cases sv with
    | fz d =>
      obtain ⟨o, eo, v, ev, rp⟩ := S.sl i _ e
      subst ev
      exact ⟨v, eo, k v H ⟨F, m, .d d, .refl, S.mem, rp, w⟩⟩
    | un => exact w.elim
    | ow c =>
      obtain ⟨o, eo, a, ea, _⟩ := S.sl i _ e
      subst ea
      exact ⟨.ref a, eo, k _ H ⟨F, m, .own i, .refl, S.mem, ⟨eo, c, e⟩, w⟩⟩
/-- a constant by its value -/
theorem px_c {X : Cx} {e : Expr} {v : V} {d : D} (h : PE X e (tC v)) (hr : ∀ F, Rep X.K F d v) : PX X e (fun r m Q => Q (.d d) m) := PEi h fun σ H Qv ⟨B, F, r, m, Q, S, w, k⟩ =>
  k v H ⟨F, m, .d d, .refl, S.mem, hr F, w⟩
theorem px_int {X : Cx} {i : Int} {j pos} : PX X (.Constant (.int i) j pos) (fun r m Q => Q (.d (.int i)) m) := px_c pe_int fun _ => by rw [Rep]
theorem px_str {X : Cx} {i : Str} {j pos} : PX X (.Constant (.str i) j pos) (fun r m Q => Q (.d (.str i)) m) := px_c pe_str fun _ => by rw [Rep]
theorem px_bl {X : Cx} {i : Bool} {j pos} : PX X (.Constant (.bool i) j pos) (fun r m Q => Q (.d (.bl i)) m) := px_c pe_bl fun _ => by rw [Rep]
theorem px_non {X : Cx} {j pos} : PX X (.Constant .none j pos) (fun r m Q => Q (.d .non) m) := px_c pe_non fun _ => by rw [Rep]

/-! ### operators -/
/-- one after another -/
theorem two {K : PySem.W.Frag} {a b : FH} {f : D → D → QR → Prop} {rr : R2}
    (hop : ∀ {F m H x y v u} {Q : QR} {Qv : VK}, Mem K F m H → Vw K F H x v → Vw K F H y u → f x y Q → (∀ w H', PoX K F m H (fun rv m' => m' = m ∧ Q rv) w H' → Qv w H') → rr v u H Qv)
    {σ : L2.St} {H : Hp} {Qv : VK} (h : tX K (fun r m Q => a r m fun g m1 => b r m1 fun g2 m2 => sees r m2 g fun x => sees r m2 g2 fun y => f x y fun v => Q v m2) σ H Qv) : tOp rr (tH K a) (tH K b) σ H Qv := by
  obtain ⟨B, F, r, m, Q, S, w, k⟩ := h
  refine ⟨B, F, r, m, _, S, w, fun v H1 ⟨F1, m1, g, E1, M1, h1, w1⟩ => ?_⟩
  have S1 := S.go E1 M1
  refine ⟨B, F1, r, m1, _, S1, w1, fun u H2 ⟨F2, m2, g2, E2, M2, h2, w2⟩ => ?_⟩
  have S2 := S1.go E2 M2
  obtain ⟨x, e1, w2⟩ := seesE w2
  obtain ⟨y, e2, w3⟩ := seesE w2
  refine hop M2 (S2.see (h1.mono E2.le) e1) (S2.see h2 e2) w3 fun z H' ⟨F3, m3, rv, E3, M3, R3, em, q⟩ => ?_
  subst em
  refine k z H' ⟨F3, m3, rv, (E1.trans E2 M1).trans E3 M2, M3, ?_, q⟩
  cases rv with
  | d x => exact R3
  | o c =>
    obtain ⟨a, ea, hF, hm, h0, ho⟩ := R3
    refine ⟨a, ea, hF, hm, ?_, ho⟩
    cases q : H a with
    | none => rfl
    | some o =>
      obtain ⟨o', e'⟩ := (E1.trans E2 M1).st a o q
      rw [h0] at e'; cases e'
/-- a value comes, nothing changes -/
theorem po_val {K : PySem.W.Frag} {F : Hp} {m : Mu} {H : Hp} {d : D} {v : V} {Q : QR} (M : Mem K F m H) (h : Rep K F d v) (q : Q (.d d)) : PoX K F m H (fun rv m' => m' = m ∧ Q rv) v H :=
  ⟨F, m, .d d, .refl, M, h, rfl, q⟩
/-- a new object comes -/
theorem po_new {K : PySem.W.Frag} {F : Hp} {m : Mu} {H : Hp} {c : D} {p : Addr} {o : HO} {Q : QR} (M : Mem K F m H) (hp : H p = none) (h : Own K F (upd H p o) p c) (q : Q (.o c)) : PoX K F m H (fun rv m' => m' = m ∧ Q rv) (.ref p) (upd H p o) :=
  ⟨F, m, .o c, .newH hp o, M.newH hp o, ⟨p, rfl, M.noF hp, M.noM hp, hp, h⟩, rfl, q⟩
/-- a new frozen object comes -/
theorem po_newF {K : PySem.W.Frag} {F : Hp} {m : Mu} {H : Hp} {d : D} {p : Addr} {o : HO} {Q : QR} (M : Mem K F m H) (hp : H p = none) (h : Rep K (upd F p o) d (.ref p)) (q : Q (.d d)) : PoX K F m H (fun rv m' => m' = m ∧ Q rv) (.ref p) (upd H p o) :=
  ⟨upd F p o, m, .d d, .newF M hp o, M.newF hp o, h, rfl, q⟩
theorem rep_int {K : PySem.W.Frag} {F : Hp} {i : Int} : Rep K F (.int i) (.int i) := by rw [Rep]
theorem rep_bl {K : PySem.W.Frag} {F : Hp} {i : Bool} : Rep K F (.bl i) (.bl i) := by rw [Rep]
theorem rep_str {K : PySem.W.Frag} {F : Hp} {i : Str} : Rep K F (.str i) (.str i) := by rw [Rep]
theorem rep_non {K : PySem.W.Frag} {F : Hp} : Rep K F .non .non := by rw [Rep]
end Pd
/-! Pd: operators over data. -/
namespace Pd
open PySem PySem.Spec PyProof.Rows L2
theorem own_lst {K : PySem.W.Frag} {F H : Hp} {p : Addr} {ds : List D} {vs : List V} (h : Reps K F ds vs) : Own K F (upd H p (.lst vs)) p (.lst ds) := ⟨vs, upd_same, h⟩
theorem le_new {K : PySem.W.Frag} {F H : Hp} {m : Mu} {p : Addr} {o : HO} (M : Mem K F m H) (hp : H p = none) : Le F (upd F p o) := .of fun b u q => by rw [upd_ne (ne_of_none q (M.noF hp))]; exact q
theorem rep_tup {K : PySem.W.Frag} {F H : Hp} {m : Mu} {p : Addr} {ds : List D} {vs : List V} (M : Mem K F m H) (hp : H p = none) (h : Reps K F ds vs) : Rep K (upd F p (.tup vs)) (.tup false ds) (.ref p) := by
  rw [Rep]
  exact ⟨p, _, rfl, (upd_same : upd F p (.tup vs) p = some (.tup vs)), h.mono (le_new M hp)⟩
/-- a two-place operation by contents -/
def rDat (K : PySem.W.Frag) (f : D → D → QR → Prop) : R2 := fun v u H Qv => ∃ F m x y Q, Mem K F m H ∧ Vw K F H x v ∧ Vw K F H y u ∧ f x y Q ∧ ∀ w H', PoX K F m H (fun rv m' => m' = m ∧ Q rv) w H' → Qv w H'
theorem px_bin2 {X : Cx} {e : Expr} {a b : FH} {f : D → D → QR → Prop} (h : PE X e (tOp (rDat X.K f) (tH X.K a) (tH X.K b))) :
    PX X e (fun r m Q => a r m fun g m1 => b r m1 fun g2 m2 => sees r m2 g fun x => sees r m2 g2 fun y => f x y fun v => Q v m2) :=
  PEi h fun σ H Qv q => two (rr := rDat X.K f) (fun M hx hy w k => ⟨_, _, _, _, _, M, hx, hy, w, k⟩) q
/-- a one-place operation by contents -/
def rDat1 (K : PySem.W.Frag) (f : D → QR → Prop) : V → Hp → VK → Prop := fun v H Qv => ∃ F m x Q, Mem K F m H ∧ Vw K F H x v ∧ f x Q ∧ ∀ w H', PoX K F m H (fun rv m' => m' = m ∧ Q rv) w H' → Qv w H'
theorem po_back {K : PySem.W.Frag} {F F1 : Hp} {m m1 : Mu} {H H1 H' : Hp} {Q : QX} {Q' : QR} {w : V} (E1 : Ext F m H F1 m1 H1) (M1 : Mem K F1 m1 H1) (p : PoX K F1 m1 H1 (fun rv m' => m' = m1 ∧ Q' rv) w H') (q : ∀ rv, Q' rv → Q rv m1) : PoX K F m H Q w H' := by
  obtain ⟨F3, m3, rv, E3, M3, R3, em, q3⟩ := p
  subst em
  refine ⟨F3, m3, rv, E1.trans E3 M1, M3, ?_, q _ q3⟩
  cases rv with
  | d x => exact R3
  | o c =>
    obtain ⟨a, ea, hF, hm, h0, ho⟩ := R3
    refine ⟨a, ea, hF, hm, ?_, ho⟩
    cases q : H a with
    | none => rfl
    | some o =>
      obtain ⟨o', e'⟩ := E1.st a o q
      rw [h0] at e'; cases e'
theorem one {K : PySem.W.Frag} {a : FH} {f : D → QR → Prop} {σ : L2.St} {H : Hp} {Qv : VK} (h : tX K (fun r m Q => a r m fun g m1 => sees r m1 g fun x => f x fun v => Q v m1) σ H Qv) : tUn (rDat1 K f) (tH K a) σ H Qv := by
  obtain ⟨B, F, r, m, Q, S, w, k⟩ := h
  refine ⟨B, F, r, m, _, S, w, fun v H1 ⟨F1, m1, g, E1, M1, h1, w1⟩ => ?_⟩
  have S1 := S.go E1 M1
  obtain ⟨x, e1, w2⟩ := seesE w1
  exact ⟨F1, m1, x, _, M1, S1.see h1 e1, w2, fun z H' p => k z H' (po_back E1 M1 p fun _ q => q)⟩
section
variable {X : Cx}
theorem opd_add : OpR X (binaryOp .Add) (rDat X.K (binR .add)) := by
  intro pins s σ H v u ov ou Qv I r1 r2 h
  obtain ⟨F, m, x, y, Q, M, hx, hy, w, k⟩ := h
  cases x with
  | int i =>
    cases y with
    | int j =>
      cases hx
      cases hy
      exact op_add pins s σ H _ _ ov ou Qv I r1 r2 ⟨i, j, rfl, rfl, k _ _ (po_val M rep_int w)⟩
    | _ => exact w.elim
  | str i =>
    cases y with
    | str j =>
      cases hx
      cases hy
      exact op_add_str pins s σ H _ _ ov ou Qv I r1 r2 ⟨i, j, rfl, rfl, w.1, k _ _ (po_val M rep_str w.2)⟩
    | _ => exact w.elim
  | lst xs =>
    cases y with
    | lst ys =>
      obtain ⟨a, vs, rfl, ra, ha⟩ := hx
      obtain ⟨b, ws, rfl, rb, hb⟩ := hy
      cases r1
      cases r2
      obtain ⟨its, q1, ⟨⟨cls, dd, data, sl⟩, n, e, hc, hdn, hd⟩, z⟩ := I.list ra
      obtain ⟨its2, q2, ⟨⟨cls2, dd2, data2, sl2⟩, n2, e2, hc2, hdn2, hd2⟩, z2⟩ := I.list rb
      simp only at hc hd hc2 hd2
      subst hc hd hc2 hd2
      have l1 := q1.length
      have l2 := q2.length
      have l3 := ha.length
      have l4 := hb.length
      have hz := w.1
      refine concat_meets ⟨_, e, rfl⟩ ⟨_, e2, rfl⟩ noFill_list_add seq_list_add PySem.F.slot_list_add PySem.F.entry_list_add (PySem.F.args_list_add_2 _ _) (list_addW _ _ its.toArray its2.toArray n n2 dd dd2 sl sl2 (by rw [List.size_toArray, List.size_toArray]; omega)) ⟨e, e2, ?_⟩
      have ea : its.toArray ++ its2.toArray = (its ++ its2).toArray := by simp
      rw [ea]
      exact ⟨.ref _, _, I.lnew (t' := s.toks) (q1.append q2) (by rw [List.length_append]; omega), rfl, k _ _ (po_new M I.fresh (own_lst (ha.append hb)) w.2)⟩
    | _ => exact w.elim
  | tup kx xs =>
    cases y with
    | tup ky ys =>
      obtain ⟨a, vs, rfl, ra, ha⟩ := hx
      obtain ⟨b, ws, rfl, rb, hb⟩ := hy
      have l3 := ha.length
      have l4 := hb.length
      obtain ⟨n0, hz, w⟩ := w
      refine op_catT pins s σ H _ _ ov ou Qv I r1 r2 ⟨a, b, vs, ws, rfl, rfl, ra.sq M.same, rb.sq M.same, fun z => n0 ?_, by omega, fun z => ?_, fun z p hp => ?_⟩
      · rw [z] at l3
        exact List.eq_nil_of_length_eq_zero l3.symm
      · have e : ys = [] := by
          rw [z] at l4
          exact List.eq_nil_of_length_eq_zero l4.symm
        refine k _ _ (po_val M ?_ w)
        rw [e, List.append_nil, List.isEmpty_nil, Bool.and_true, Rep]
        exact ⟨a, vs, rfl, ra, ha⟩
      · have e : (kx && ys.isEmpty) = false := by
          cases ys with
          | nil => exact absurd (List.eq_nil_of_length_eq_zero (by simpa using l4)) z
          | cons _ _ => simp
        rw [e] at w
        exact k _ _ (po_newF M hp (rep_tup M hp (ha.append hb)) w)
    | _ => exact w.elim
  | _ => cases y <;> exact w.elim
theorem opd_sub : OpR X (binaryOp .Sub) (rDat X.K (binR .sub)) := by
  intro pins s σ H v u ov ou Qv I r1 r2 h
  obtain ⟨F, m, x, y, Q, M, hx, hy, w, k⟩ := h
  cases x with
  | int i =>
    cases y with
    | int j =>
      cases hx
      cases hy
      exact op_sub pins s σ H _ _ ov ou Qv I r1 r2 ⟨i, j, rfl, rfl, k _ _ (po_val M rep_int w)⟩
    | _ => exact w.elim
  | _ => cases y <;> exact w.elim
theorem opd_mul : OpR X (binaryOp .Mult) (rDat X.K (binR .mul)) := by
  intro pins s σ H v u ov ou Qv I r1 r2 h
  obtain ⟨F, m, x, y, Q, M, hx, hy, w, k⟩ := h
  cases x with
  | int i =>
    cases y with
    | int j =>
      cases hx
      cases hy
      obtain ⟨hm, w⟩ := w
      rcases hm with hm | hm | ⟨h1, h2⟩
      · exact op_mul pins s σ H _ _ ov ou Qv I r1 r2 ⟨i, j, rfl, rfl, .inl hm, k _ _ (po_val M rep_int w)⟩
      · exact op_mul pins s σ H _ _ ov ou Qv I r1 r2 ⟨i, j, rfl, rfl, .inr hm, k _ _ (po_val M rep_int w)⟩
      · exact op_mulW pins s σ H _ _ ov ou Qv I r1 r2 ⟨i, j, rfl, rfl, wide_mul (bigN_eq ▸ h1) (bigN_eq ▸ h2) (by decide) (by decide) (by decide), k _ _ (po_val M rep_int w)⟩
    | _ => exact w.elim
  | _ => cases y <;> exact w.elim
theorem opd_fdiv : OpR X (binaryOp .FloorDiv) (rDat X.K (binR .fdiv)) := by
  intro pins s σ H v u ov ou Qv I r1 r2 h
  obtain ⟨F, m, x, y, Q, M, hx, hy, w, k⟩ := h
  cases x with
  | int i =>
    cases y with
    | int j =>
      cases hx
      cases hy
      obtain ⟨hm, w⟩ := w
      rcases hm with ⟨h1, h2⟩ | hm
      · refine op_fdivW pins s σ H _ _ ov ou Qv I r1 r2 ⟨i, j, rfl, rfl, wide_div h1 (bigN_eq ▸ h2) (by decide) (by decide), ?_⟩
        have e : i.fdiv j = i / j := Int.fdiv_eq_ediv_of_nonneg i (Int.le_of_lt h1)
        rw [e] at w
        exact k _ _ (po_val M rep_int w)
      · exact op_fdivN pins s σ H _ _ ov ou Qv I r1 r2 ⟨i, j, rfl, rfl, hm, k _ _ (po_val M rep_int w)⟩
    | _ => exact w.elim
  | _ => cases y <;> exact w.elim
theorem opd_mod : OpR X (binaryOp .Mod) (rDat X.K (binR .mod)) := by
  intro pins s σ H v u ov ou Qv I r1 r2 h
  obtain ⟨F, m, x, y, Q, M, hx, hy, w, k⟩ := h
  cases x with
  | int i =>
    cases y with
    | int j =>
      cases hx
      cases hy
      exact op_modN pins s σ H _ _ ov ou Qv I r1 r2 ⟨i, j, rfl, rfl, w.1, k _ _ (po_val M rep_int w.2)⟩
    | _ => exact w.elim
  | _ => cases y <;> exact w.elim
theorem opd_pow : OpR X (binaryOp .Pow) (rDat X.K (binR .pow)) := by
  intro pins s σ H v u ov ou Qv I r1 r2 h
  obtain ⟨F, m, x, y, Q, M, hx, hy, w, k⟩ := h
  cases x with
  | int i =>
    cases y with
    | int j =>
      cases hx
      cases hy
      exact op_pow pins s σ H _ _ ov ou Qv I r1 r2 ⟨i, j, rfl, rfl, w.1, k _ _ (po_val M rep_int w.2)⟩
    | _ => exact w.elim
  | _ => cases y <;> exact w.elim
theorem opd_shl : OpR X (binaryOp .LShift) (rDat X.K (binR .shl)) := by
  intro pins s σ H v u ov ou Qv I r1 r2 h
  obtain ⟨F, m, x, y, Q, M, hx, hy, w, k⟩ := h
  cases x with
  | int i =>
    cases y with
    | int j =>
      cases hx
      cases hy
      exact op_shl pins s σ H _ _ ov ou Qv I r1 r2 ⟨i, j, rfl, rfl, w.1, k _ _ (po_val M rep_int w.2)⟩
    | _ => exact w.elim
  | _ => cases y <;> exact w.elim
theorem opd_band : OpR X (binaryOp .BitAnd) (rDat X.K (binR .band)) := by
  intro pins s σ H v u ov ou Qv I r1 r2 h
  obtain ⟨F, m, x, y, Q, M, hx, hy, w, k⟩ := h
  cases x with
  | int i =>
    cases y with
    | int j =>
      cases hx
      cases hy
      exact op_and pins s σ H _ _ ov ou Qv I r1 r2 ⟨i, j, rfl, rfl, k _ _ (po_val M rep_int w)⟩
    | _ => exact w.elim
  | _ => cases y <;> exact w.elim
def bopOf : Bop → Operator
  | .add => .Add | .sub => .Sub | .mul => .Mult | .fdiv => .FloorDiv | .mod => .Mod | .pow => .Pow | .shl => .LShift | .band => .BitAnd
theorem opd_bin : ∀ o : Bop, OpR X (binaryOp (bopOf o)) (rDat X.K (binR o))
  | .add => opd_add | .sub => opd_sub | .mul => opd_mul | .fdiv => opd_fdiv | .mod => opd_mod | .pow => opd_pow | .shl => opd_shl | .band => opd_band
def negR : D → QR → Prop := fun c Q => ∃ i, c = .int i ∧ Q (.d (.int (-i)))
theorem und_neg : UnR X (unaryOp .USub) (rDat1 X.K negR) := by
  intro pins s σ H v ov Qv I r1 h
  obtain ⟨F, m, x, Q, M, hx, ⟨i, rfl, w⟩, k⟩ := h
  cases hx
  exact un_neg pins s σ H _ ov Qv I r1 ⟨i, rfl, k _ _ (po_val M rep_int w)⟩
/-! ### comparisons -/
def cmpQ (o : Cop) : D → D → QR → Prop := fun x y Q => cmpR o x y fun k => Q (.d (.bl k))
theorem opd_cmp {f : Value → Value → Sem Value} {o : Cop} (h : OpR X f (rI0 fun i j => .bl (copB o i j))) : OpR X f (rDat X.K (cmpQ o)) := by
  intro pins s σ H v u ov ou Qv I r1 r2 q
  obtain ⟨F, m, x, y, Q, M, hx, hy, w, k⟩ := q
  cases x with
  | int i =>
    cases y with
    | int j =>
      cases hx
      cases hy
      exact h pins s σ H _ _ ov ou Qv I r1 r2 ⟨i, j, rfl, rfl, k _ _ (po_val M rep_bl w)⟩
    | _ => exact w.elim
  | _ => cases y <;> exact w.elim
def copOf : Cop → CmpOp
  | .lt => .Lt | .le => .LtE | .gt => .Gt | .ge => .GtE
theorem opd_cop : ∀ o : Cop, OpR X (compareOp (copOf o)) (rDat X.K (cmpQ o))
  | .lt => opd_cmp op_lt | .le => opd_cmp op_le | .gt => opd_cmp op_gt | .ge => opd_cmp op_ge
/-! ### == of data -/
mutual
theorem eqD_py : ∀ d e : D, PyData.plain (toPy d) = true → PyData.plain (toPy e) = true → PyData.eqv (toPy d) (toPy e) = eqD d e
  | .non, e, _, h => by cases e <;> first | rfl | (simp [toPy, PyData.plain] at h) | simp [toPy, PyData.eqv, eqD]
  | .bl _, e, _, h => by cases e <;> first | rfl | (simp [toPy, PyData.plain] at h) | simp [toPy, PyData.eqv, eqD]
  | .int _, e, _, h => by cases e <;> first | rfl | (simp [toPy, PyData.plain] at h) | simp [toPy, PyData.eqv, eqD]
  | .str _, e, _, h => by cases e <;> first | rfl | (simp [toPy, PyData.plain] at h) | simp [toPy, PyData.eqv, eqD]
  | .tup _ ds, e, h0, h => by
    cases e with
    | tup _ es =>
      simp only [toPy, PyData.eqv, eqD]
      exact eqDs_py ds es (by simpa [toPy, PyData.plain] using h0) (by simpa [toPy, PyData.plain] using h)
    | dK _ _ => simp [toPy, PyData.plain] at h
    | dT _ _ => simp [toPy, PyData.plain] at h
    | cell _ => simp [toPy, PyData.plain] at h
    | _ => simp [toPy, PyData.eqv, eqD]
  | .lst ds, e, h0, h => by
    cases e with
    | lst es =>
      simp only [toPy, PyData.eqv, eqD]
      exact eqDs_py ds es (by simpa [toPy, PyData.plain] using h0) (by simpa [toPy, PyData.plain] using h)
    | dK _ _ => simp [toPy, PyData.plain] at h
    | dT _ _ => simp [toPy, PyData.plain] at h
    | cell _ => simp [toPy, PyData.plain] at h
    | _ => simp [toPy, PyData.eqv, eqD]
  | .dK _ _, _, h, _ => by simp [toPy, PyData.plain] at h
  | .dT _ _, _, h, _ => by simp [toPy, PyData.plain] at h
  | .cell _, _, h, _ => by simp [toPy, PyData.plain] at h
theorem eqDs_py : ∀ ds es : List D, PyData.plainAll (toPys ds) = true → PyData.plainAll (toPys es) = true → PyData.eqvAll (toPys ds) (toPys es) = eqDs ds es
  | [], [], _, _ => rfl
  | [], _ :: _, _, _ => rfl
  | _ :: _, [], _, _ => rfl
  | d :: ds, e :: es, h, h' => by
    simp only [toPys, PyData.plainAll, Bool.and_eq_true] at h h'
    simp only [toPys, PyData.eqvAll, eqDs]
    rw [eqD_py d e h.1 h'.1, eqDs_py ds es h.2 h'.2]
end
theorem plainF_list {n : Nat} {p : D → Prop} : ∀ {ds : List D}, (∀ d, plainF n d = true → p d) → ds.all (plainF n) = true → ∀ d ∈ ds, p d := fun {ds} h q d hd => h d (List.all_eq_true.mp q d hd)
theorem plain_py : ∀ (n : Nat) (d : D), plainF n d = true → PyData.plain (toPy d) = true ∧ (toPy d).depth ≤ n := by
  have lst : ∀ (n : Nat) (ds : List D), (∀ d ∈ ds, PyData.plain (toPy d) = true ∧ (toPy d).depth ≤ n) → PyData.plainAll (toPys ds) = true ∧ PyData.depthAll (toPys ds) ≤ n := by
    intro n ds
    induction ds with
    | nil => intro _; exact ⟨rfl, Nat.zero_le _⟩
    | cons d ds ih =>
      intro h
      obtain ⟨h1, h2⟩ := h d (by simp)
      obtain ⟨h3, h4⟩ := ih fun e he => h e (by simp [he])
      refine ⟨?_, ?_⟩
      · simp only [toPys, PyData.plainAll, h1, h3, Bool.and_self]
      · simp only [toPys, PyData.depthAll]
        omega
  intro n
  induction n with
  | zero =>
    intro d h
    cases d <;> first | (exact ⟨rfl, Nat.le_refl _⟩) | (simp [plainF] at h)
  | succ n ih =>
    intro d h
    cases d with
    | tup _ ds =>
      have h' : ds.all (plainF n) = true := h
      obtain ⟨h3, h4⟩ := lst n ds (plainF_list ih h')
      exact ⟨by simpa [toPy, PyData.plain] using h3, by simp only [toPy, PyData.depth]; omega⟩
    | lst ds =>
      have h' : ds.all (plainF n) = true := h
      obtain ⟨h3, h4⟩ := lst n ds (plainF_list ih h')
      exact ⟨by simpa [toPy, PyData.plain] using h3, by simp only [toPy, PyData.depth]; omega⟩
    | non => exact ⟨rfl, Nat.zero_le _⟩
    | bl _ => exact ⟨rfl, Nat.zero_le _⟩
    | int _ => exact ⟨rfl, Nat.zero_le _⟩
    | str _ => exact ⟨rfl, Nat.zero_le _⟩
    | _ => simp [plainF] at h
theorem dp_all {K : PySem.W.Frag} {F H : Hp} {n : Nat} (ih : ∀ d v, plainF n d = true → Rep K F d v → Dp K H v (toPy d)) : ∀ {ds : List D} {vs : List V}, ds.all (plainF n) = true → Reps K F ds vs → DpAll K H vs (toPys ds)
  | [], _, _, r => by rw [r.of_nil]; exact .nil
  | d :: ds, _, h, r => by
    obtain ⟨v, t, e, r1, r2⟩ := r.of_cons
    rw [e]
    simp only [List.all_cons, Bool.and_eq_true] at h
    exact .cons (ih d v h.1 r1) (dp_all ih h.2 r2)
theorem dp_of {K : PySem.W.Frag} {F H : Hp} (s : Same F H) : ∀ (n : Nat) (d : D) (v : V), plainF n d = true → Rep K F d v → Dp K H v (toPy d) := by
  intro n
  induction n with
  | zero =>
    intro d v h r
    cases d <;> first | (simp [plainF] at h; done) | (rw [Rep] at r; subst r; constructor)
  | succ n ih =>
    intro d v h r
    cases d with
    | tup _ ds =>
      rw [Rep] at r
      obtain ⟨a, vs, e, t, q⟩ := r
      subst e
      exact .tup (t.sq s) (dp_all ih h q)
    | lst ds =>
      rw [Rep] at r
      obtain ⟨a, vs, e, t, q⟩ := r
      subst e
      exact .lst (s.sqL t) (dp_all ih h q)
    | _ => first | (simp [plainF] at h; done) | (rw [Rep] at r; subst r; constructor)
theorem dp_vw {K : PySem.W.Frag} {F H : Hp} (s : Same F H) {n : Nat} {d : D} {v : V} (h : plainF n d = true) (r : Vw K F H d v) : Dp K H v (toPy d) := by
  cases d with
  | lst ds =>
    obtain ⟨a, vs, e, t, q⟩ := r
    subst e
    cases n with
    | zero => simp [plainF] at h
    | succ n => exact .lst t (dp_all (dp_of s n) h q)
  | tup _ ds =>
    obtain ⟨a, vs, e, t, q⟩ := r
    subst e
    cases n with
    | zero => simp [plainF] at h
    | succ n => exact .tup (t.sq s) (dp_all (dp_of s n) h q)
  | non => cases r; constructor
  | bl _ => cases r; constructor
  | int _ => cases r; constructor
  | str _ => cases r; constructor
  | dK _ _ => cases n <;> simp [plainF] at h
  | dT _ _ => cases n <;> simp [plainF] at h
  | cell _ => cases n <;> simp [plainF] at h
def eqQ (ne : Bool) : D → D → QR → Prop := fun x y Q => plainD x = true ∧ plainD y = true ∧ Q (.d (.bl (if ne then !eqD x y else eqD x y)))
theorem opd_eq (hu : X.A.units + 64 < cLine) : OpR X (compareOp .Eq) (rDat X.K (eqQ false)) := by
  intro pins s σ H v u ov ou Qv I r1 r2 h
  obtain ⟨F, m, x, y, Q, M, hx, hy, ⟨p1, p2, w⟩, k⟩ := h
  obtain ⟨as, q1⟩ := Dp.reads I _ _ _ (dp_vw M.same p1 hx) r1
  obtain ⟨bs, q2⟩ := Dp.reads I _ _ _ (dp_vw M.same p2 hy) r2
  obtain ⟨g1, d1⟩ := plain_py _ _ p1
  obtain ⟨g2, d2⟩ := plain_py _ _ p2
  refine SeqAt.eq_plain q1 q2 g1 g2 (by omega) ?_
  rw [eqD_py _ _ g1 g2]
  exact ⟨.bl _, H, I, rfl, k _ _ (po_val M rep_bl w)⟩
theorem opd_ne (hu : X.A.units + 64 < cLine) : OpR X (compareOp .NotEq) (rDat X.K (eqQ true)) := by
  intro pins s σ H v u ov ou Qv I r1 r2 h
  obtain ⟨F, m, x, y, Q, M, hx, hy, ⟨p1, p2, w⟩, k⟩ := h
  obtain ⟨as, q1⟩ := Dp.reads I _ _ _ (dp_vw M.same p1 hx) r1
  obtain ⟨bs, q2⟩ := Dp.reads I _ _ _ (dp_vw M.same p2 hy) r2
  obtain ⟨g1, d1⟩ := plain_py _ _ p1
  obtain ⟨g2, d2⟩ := plain_py _ _ p2
  refine SeqAt.ne_plain q1 q2 g1 g2 (by omega) ?_
  rw [eqD_py _ _ g1 g2]
  exact ⟨.bl _, H, I, rfl, k _ _ (po_val M rep_bl w)⟩
end
end Pd
/-! Pd: tests, lists of arguments, displays, calls of built-ins. -/
namespace Pd
open PySem PySem.Spec PyProof.Rows L2
/-! ### tests -/
section
variable {X : Cx}
theorem tru_of {K : PySem.W.Frag} {F H : Hp} : ∀ {c : D} {v : V} {Q : Bool → Prop}, Same F H → Vw K F H c v → truR c Q → ∃ k, TruV K v H k ∧ Q k
  | .non, _, _, _, hv, h => by cases hv; exact ⟨_, rfl, h⟩
  | .bl b, _, _, _, hv, h => by cases hv; exact ⟨_, rfl, h⟩
  | .int i, _, _, _, hv, h => by cases hv; exact ⟨_, rfl, h⟩
  | .str x, _, _, _, hv, h => by
    cases hv
    refine ⟨_, ⟨h.1, rfl⟩, ?_⟩
    have e : (((x.length : Int) != 0) : Bool) = (x.length != 0) := by
      rw [Bool.eq_iff_iff]
      simp
    rw [e]
    exact h.2
  | .lst ds, _, _, _, ⟨a, vs, e, r, q⟩, h => by
    subst e
    have l := q.length
    refine ⟨_, .inl ⟨vs, r, rfl⟩, ?_⟩
    have e : (!vs.isEmpty) = !ds.isEmpty := by cases ds <;> cases vs <;> first | rfl | (simp at l)
    rw [e]
    exact h
  | .tup _ ds, _, _, s, ⟨a, vs, e, r, q⟩, h => by
    subst e
    have l := q.length
    refine ⟨_, .inr (.inl ⟨vs, r.sq s, rfl⟩), ?_⟩
    have e : (!vs.isEmpty) = !ds.isEmpty := by cases ds <;> cases vs <;> first | rfl | (simp at l)
    rw [e]
    exact h
  | .dK _ _, _, _, _, _, h => h.elim
  | .dT _ _, _, _, _, _, h => h.elim
  | .cell _, _, _, _, _, h => h.elim
/-- a test by its value's truth -/
theorem pt_h {e : Expr} {f : FH} (h : PH X e f) (he : ∀ whole, isTrue e X.env whole = (do let v ← whole; standAt e.pos; holding [v] (truthy v))) : PT X e (tT X.K (tOfH f)) :=
  PTi (pt_truth h he) fun σ H Qb ⟨B, F, r, m, Q, S, w, k⟩ => ⟨B, F, r, m, _, S, w, fun v H1 ⟨F1, m1, g, E1, M1, h1, w1⟩ => by
    obtain ⟨c, e1, w1⟩ := seesE w1
    obtain ⟨b, t1, q⟩ := tru_of M1.same ((S.go E1 M1).see h1 e1) w1
    exact ⟨b, t1, k b H1 ⟨F1, m1, E1, M1, q⟩⟩⟩
theorem px_cmp {ea eb : Expr} {op : CmpOp} {pos : Pos} {a b : FH} {f : D → D → QR → Prop} (ho : OpR X (compareOp op) (rDat X.K f)) (ha : PH X ea a) (hb : PH X eb b) (hm : behindInMarks op eb = false) :
    PX X (.Compare ea [op] [eb] pos) (fun r m Q => a r m fun g m1 => b r m1 fun g2 m2 => sees r m2 g fun x => sees r m2 g2 fun y => f x y fun v => Q v m2) := px_bin2 (pe_cmpR ho ha hb hm)
theorem px_bin {ea eb : Expr} {op : Operator} {pos : Pos} {a b : FH} {f : D → D → QR → Prop} (ho : OpR X (binaryOp op) (rDat X.K f)) (ha : PH X ea a) (hb : PH X eb b) :
    PX X (.BinOp ea op eb pos) (fun r m Q => a r m fun g m1 => b r m1 fun g2 m2 => sees r m2 g fun x => sees r m2 g2 fun y => f x y fun v => Q v m2) := px_bin2 (pe_op ho ha hb)
theorem px_un {ea : Expr} {op : UnaryOp} {pos : Pos} {a : FH} {f : D → QR → Prop} (ho : UnR X (unaryOp op) (rDat1 X.K f)) (ha : PH X ea a) :
    PX X (.UnaryOp op ea pos) (fun r m Q => a r m fun g m1 => sees r m1 g fun x => f x fun v => Q v m1) := PEi (pe_un ho ha) fun σ H Qv q => one q
/-! ### and, or, not -/
def andT (a b : FT) : FT := fun r m Q => a r m fun k m1 => if k = true then b r m1 Q else Q false m1
def orT (a b : FT) : FT := fun r m Q => a r m fun k m1 => if k = true then Q true m1 else b r m1 Q
def notT (a : FT) : FT := fun r m Q => a r m fun k m1 => Q (!k) m1
theorem PoT.back {K : PySem.W.Frag} {F F1 : Hp} {m m1 : Mu} {H H1 H' : Hp} {Q : Bool → Mu → Prop} {b : Bool} (E1 : Ext F m H F1 m1 H1) (M1 : Mem K F1 m1 H1) (p : PoT K F1 m1 H1 Q b H') : PoT K F m H Q b H' := by
  obtain ⟨F3, m3, E3, M3, q⟩ := p
  exact ⟨F3, m3, E1.trans E3 M1, M3, q⟩
theorem rv_back {K : PySem.W.Frag} {F F1 F' : Hp} {m m1 m' : Mu} {H H1 H' : Hp} (E1 : Ext F m H F1 m1 H1) {rv : RV} {w : V} (R3 : RVr K F' m' H1 H' rv w) : RVr K F' m' H H' rv w := by
  cases rv with
  | d x => exact R3
  | o c =>
    obtain ⟨a, ea, hF, hm, h0, ho⟩ := R3
    refine ⟨a, ea, hF, hm, ?_, ho⟩
    cases q : H a with
    | none => rfl
    | some o =>
      obtain ⟨o', e'⟩ := E1.st a o q
      rw [h0] at e'; cases e'
theorem PoX.back {K : PySem.W.Frag} {F F1 : Hp} {m m1 : Mu} {H H1 H' : Hp} {Q : QX} {w : V} (E1 : Ext F m H F1 m1 H1) (M1 : Mem K F1 m1 H1) (p : PoX K F1 m1 H1 Q w H') : PoX K F m H Q w H' := by
  obtain ⟨F3, m3, rv, E3, M3, R3, q⟩ := p
  exact ⟨F3, m3, rv, E1.trans E3 M1, M3, rv_back E1 R3, q⟩
theorem PoH.back {K : PySem.W.Frag} {r : Ro} {σ : L2.St} {F F1 : Hp} {m m1 : Mu} {H H1 H' : Hp} {Q : Hd → Mu → Prop} {w : V} (E1 : Ext F m H F1 m1 H1) (M1 : Mem K F1 m1 H1) (p : PoH K r σ F1 m1 H1 Q w H') : PoH K r σ F m H Q w H' := by
  obtain ⟨F3, m3, g, E3, M3, R3, q⟩ := p
  exact ⟨F3, m3, g, E1.trans E3 M1, M3, R3, q⟩
theorem pwd_and {ea eb : Expr} {rest : List Expr} {pos : Pos} {a b : FT} (ha : PT X ea (tT X.K a)) (hb : PW X (.BoolOp .And (eb :: rest) pos) (tT X.K b)) : PW X (.BoolOp .And (ea :: eb :: rest) pos) (tT X.K (andT a b)) :=
  PWi (pw_and ha hb) fun σ H Qb ⟨B, F, r, m, Q, S, w, k⟩ => ⟨B, F, r, m, _, S, w, fun c H1 ⟨F1, m1, E1, M1, w1⟩ => by
    cases c with
    | true => exact ⟨B, F1, r, m1, Q, S.go E1 M1, w1, fun b H' p => k b H' (p.back E1 M1)⟩
    | false => exact k false H1 ⟨F1, m1, E1, M1, w1⟩⟩
theorem pwd_or {ea eb : Expr} {rest : List Expr} {pos : Pos} {a b : FT} (ha : PT X ea (tT X.K a)) (hb : PW X (.BoolOp .Or (eb :: rest) pos) (tT X.K b)) : PW X (.BoolOp .Or (ea :: eb :: rest) pos) (tT X.K (orT a b)) :=
  PWi (pw_or ha hb) fun σ H Qb ⟨B, F, r, m, Q, S, w, k⟩ => ⟨B, F, r, m, _, S, w, fun c H1 ⟨F1, m1, E1, M1, w1⟩ => by
    cases c with
    | true => exact k true H1 ⟨F1, m1, E1, M1, w1⟩
    | false => exact ⟨B, F1, r, m1, Q, S.go E1 M1, w1, fun b H' p => k b H' (p.back E1 M1)⟩⟩
theorem ptd_not {ea : Expr} {pos : Pos} {a : FT} (ha : PT X ea (tT X.K a)) : PT X (.UnaryOp .Not ea pos) (tT X.K (notT a)) :=
  PTi (pt_not ha) fun σ H Qb ⟨B, F, r, m, Q, S, w, k⟩ => ⟨B, F, r, m, _, S, w, fun c H1 ⟨F1, m1, E1, M1, w1⟩ => k _ H1 ⟨F1, m1, E1, M1, w1⟩⟩
def andX (a b : FX) : FX := fun r m Q => a r m fun v m1 => ∃ k, v = .d (.bl k) ∧ if k = true then b r m1 Q else Q (.d (.bl false)) m1
def orX (a b : FX) : FX := fun r m Q => a r m fun v m1 => ∃ k, v = .d (.bl k) ∧ if k = true then Q (.d (.bl true)) m1 else b r m1 Q
def notX (a : FX) : FX := fun r m Q => a r m fun v m1 => ∃ k, v = .d (.bl k) ∧ Q (.d (.bl (!k))) m1
theorem rep_bl_inv {K : PySem.W.Frag} {F : Hp} {k : Bool} {v : V} (h : Rep K F (.bl k) v) : v = .bl k := by rw [Rep] at h; exact h
theorem pxd_and {ea eb : Expr} {rest : List Expr} {pos : Pos} {a b : FX} (ha : PX X ea a) (hb : PX X (.BoolOp .And (eb :: rest) pos) b) : PX X (.BoolOp .And (ea :: eb :: rest) pos) (andX a b) :=
  PEi (pe_and ha hb) fun σ H Qv ⟨B, F, r, m, Q, S, w, k⟩ => ⟨B, F, r, m, _, S, w, fun v H1 ⟨F1, m1, rv, E1, M1, R1, c, ec, w1⟩ => by
    subst ec
    have ev := rep_bl_inv (show Rep X.K F1 (.bl c) v from R1)
    subst ev
    cases c with
    | true => exact ⟨true, rfl, B, F1, r, m1, Q, S.go E1 M1, w1, fun b H' p => k b H' (p.back E1 M1)⟩
    | false => exact ⟨false, rfl, k _ H1 ⟨F1, m1, _, E1, M1, R1, w1⟩⟩⟩
theorem pxd_or {ea eb : Expr} {rest : List Expr} {pos : Pos} {a b : FX} (ha : PX X ea a) (hb : PX X (.BoolOp .Or (eb :: rest) pos) b) : PX X (.BoolOp .Or (ea :: eb :: rest) pos) (orX a b) :=
  PEi (pe_or ha hb) fun σ H Qv ⟨B, F, r, m, Q, S, w, k⟩ => ⟨B, F, r, m, _, S, w, fun v H1 ⟨F1, m1, rv, E1, M1, R1, c, ec, w1⟩ => by
    subst ec
    have ev := rep_bl_inv (show Rep X.K F1 (.bl c) v from R1)
    subst ev
    cases c with
    | true => exact ⟨true, rfl, k _ H1 ⟨F1, m1, _, E1, M1, R1, w1⟩⟩
    | false => exact ⟨false, rfl, B, F1, r, m1, Q, S.go E1 M1, w1, fun b H' p => k b H' (p.back E1 M1)⟩⟩
theorem pxd_not {ea : Expr} {pos : Pos} {a : FX} (ha : PX X ea a) : PX X (.UnaryOp .Not ea pos) (notX a) :=
  PEi (pe_not ha) fun σ H Qv ⟨B, F, r, m, Q, S, w, k⟩ => ⟨B, F, r, m, _, S, w, fun v H1 ⟨F1, m1, rv, E1, M1, R1, c, ec, w1⟩ => by
    subst ec
    have ev := rep_bl_inv (show Rep X.K F1 (.bl c) v from R1)
    subst ev
    exact ⟨c, rfl, k _ H1 ⟨F1, m1, .d (.bl (!c)), E1, M1, (rep_bl : Rep X.K F1 (.bl (!c)) (.bl (!c))), w1⟩⟩⟩
def iteX (t : FT) (a b : FX) : FX := fun r m Q => t r m fun k m1 => if k = true then a r m1 Q else b r m1 Q
theorem pxd_ite {et ea eb : Expr} {pos : Pos} {t : FT} {a b : FX} (ht : PT X et (tT X.K t)) (ha : PX X ea a) (hb : PX X eb b) : PX X (.IfExp et ea eb pos) (iteX t a b) :=
  PEi (pe_ifExp ht ha hb) fun σ H Qv ⟨B, F, r, m, Q, S, w, k⟩ => ⟨B, F, r, m, _, S, w, fun c H1 ⟨F1, m1, E1, M1, w1⟩ => by
    cases c with
    | true => exact ⟨B, F1, r, m1, Q, S.go E1 M1, w1, fun b H' p => k b H' (p.back E1 M1)⟩
    | false => exact ⟨B, F1, r, m1, Q, S.go E1 M1, w1, fun b H' p => k b H' (p.back E1 M1)⟩⟩
/-! ### several -/
def consL (a : FX) (t : FL) : FL := fun r m Q => a r m fun v m1 => t r m1 fun ds m2 => Q (v.toD :: ds) m2
def nilL : FL := fun r m Q => Q [] m
def consG (a : FH) (t : FG) : FG := fun r m Q => a r m fun g m1 => t r m1 fun gs m2 => Q (g :: gs) m2
def nilG : FG := fun r m Q => Q [] m
theorem pal_nil : PA X [] (tL X.K nilL) := PAi pa_nil fun σ H Qv ⟨B, F, r, m, Q, S, w, k⟩ => k _ _ ⟨F, m, [], .refl, S.mem, .nil, w⟩
theorem pal_cons {e : Expr} {es : List Expr} {a : FX} {t : FL} (ha : PX X e a) (ht : PA X es (tL X.K t)) (hs : starEach (e :: es) X.env = (false, eval e X.env) :: starEach es X.env) : PA X (e :: es) (tL X.K (consL a t)) :=
  PAi (pa_cons (px_d ha) ht hs) fun σ H Qv ⟨B, F, r, m, Q, S, w, k⟩ => ⟨B, F, r, m, fun d m1 => t r m1 fun ds m2 => Q (d :: ds) m2, S, w, fun v H1 ⟨F1, m1, d, E1, M1, R1, w1⟩ =>
    ⟨B, F1, r, m1, _, S.go E1 M1, w1, fun vs H2 ⟨F2, m2, ds, E2, M2, R2, w2⟩ => k _ _ ⟨F2, m2, d :: ds, E1.trans E2 M1, M2, .cons (R1.mono E2.le) R2, w2⟩⟩⟩
theorem HdsOk.mono {K : PySem.W.Frag} {F F' : Hp} {r : Ro} {σ : L2.St} (h : Le F F') : ∀ {gs : List Hd} {vs : List V}, HdsOk K F r σ gs vs → HdsOk K F' r σ gs vs
  | _, _, .nil => .nil
  | _, _, .cons a t => .cons (a.mono h) (t.mono h)
theorem pag_nil : PA X [] (tG X.K nilG) := PAi pa_nil fun σ H Qv ⟨B, F, r, m, Q, S, w, k⟩ => k _ _ ⟨F, m, [], .refl, S.mem, .nil, w⟩
theorem pag_cons {e : Expr} {es : List Expr} {a : FH} {t : FG} (ha : PH X e a) (ht : PA X es (tG X.K t)) (hs : starEach (e :: es) X.env = (false, eval e X.env) :: starEach es X.env) : PA X (e :: es) (tG X.K (consG a t)) :=
  PAi (pa_cons ha ht hs) fun σ H Qv ⟨B, F, r, m, Q, S, w, k⟩ => ⟨B, F, r, m, _, S, w, fun v H1 ⟨F1, m1, g, E1, M1, R1, w1⟩ =>
    ⟨B, F1, r, m1, _, S.go E1 M1, w1, fun vs H2 ⟨F2, m2, gs, E2, M2, R2, w2⟩ => k _ _ ⟨F2, m2, g :: gs, E1.trans E2 M1, M2, .cons (R1.mono E2.le) R2, w2⟩⟩⟩
/-! ### displays -/
theorem px_tup {es : List Expr} {n : Nat} {pos : Pos} {t : FL} (h : PA X es (tL X.K t)) : PX X (.Tuple es n pos) (fun r m Q => t r m fun ds m1 => ds.length ≤ sizeLine ∧ Q (.d (.tup false ds)) m1) :=
  PEi (pe_tup h) fun σ H Qv ⟨B, F, r, m, Q, S, w, k⟩ => ⟨B, F, r, m, _, S, w, fun vs H1 ⟨F1, m1, ds, E1, M1, R1, hz, w1⟩ =>
    ⟨by rw [R1.length]; exact hz, fun p hp => k _ _ (.back E1 M1 ⟨_, m1, .d (.tup false ds), .newF M1 hp _, M1.newF hp _, rep_tup M1 hp R1, w1⟩)⟩⟩
theorem px_lst {es : List Expr} {pos : Pos} {t : FL} (h : PA X es (tL X.K t)) : PX X (.List es pos) (fun r m Q => t r m fun ds m1 => ds.length ≤ sizeLine ∧ Q (.o (.lst ds)) m1) :=
  PEi (pe_lst h) fun σ H Qv ⟨B, F, r, m, Q, S, w, k⟩ => ⟨B, F, r, m, _, S, w, fun vs H1 ⟨F1, m1, ds, E1, M1, R1, hz, w1⟩ =>
    ⟨by rw [R1.length]; exact hz, fun p hp => k _ _ (.back E1 M1 ⟨F1, m1, .o (.lst ds), .newH hp _, M1.newH hp _, ⟨p, rfl, M1.noF hp, M1.noM hp, hp, own_lst R1⟩, w1⟩)⟩⟩
theorem px_dict0 {pos : Pos} (t : Bool) : PX X (.Dict [] [] pos) (fun r m Q => Q (.o (dK0 t)) m) := by
  cases t with
  | false =>
    exact PEi pe_dnewK fun σ H Qv ⟨B, F, r, m, Q, S, w, k⟩ => fun p hp => k _ _ ⟨F, m, .o (.dK [] []), .newH hp _, S.mem.newH hp _, ⟨p, rfl, S.mem.noF hp, S.mem.noM hp, hp, [], upd_same, rfl, .nil⟩, w⟩
  | true =>
    exact PEi pe_dnewT fun σ H Qv ⟨B, F, r, m, Q, S, w, k⟩ => fun p hp => k _ _ ⟨F, m, .o (.dT [] []), .newH hp _, S.mem.newH hp _, ⟨p, rfl, S.mem.noF hp, S.mem.noM hp, hp, [], upd_same, rfl, .nil⟩, w⟩
/-! ### calls of built-ins -/
inductive VwsL (K : PySem.W.Frag) (F H : Hp) : List D → List V → Prop
  | nil : VwsL K F H [] []
  | cons {d : D} {ds : List D} {v : V} {vs : List V} : Vw K F H d v → VwsL K F H ds vs → VwsL K F H (d :: ds) (v :: vs)
def rDatL (K : PySem.W.Frag) (f : List D → QR → Prop) : List V → Hp → VK → Prop := fun vs H Qv => ∃ F m cs Q, Mem K F m H ∧ VwsL K F H cs vs ∧ f cs Q ∧ ∀ w H', PoX K F m H (fun rv m' => m' = m ∧ Q rv) w H' → Qv w H'
theorem sees_all {K : PySem.W.Frag} {B : Bs} {F : Hp} {r : Ro} {m : Mu} {σ : L2.St} {H : Hp} (S : Sb K B F r m σ H) : ∀ {gs : List Hd} {vs : List V} {Q : List D → Prop}, HdsOk K F r σ gs vs → seesL r m gs Q → ∃ cs, VwsL K F H cs vs ∧ Q cs
  | _, _, _, .nil, q => ⟨[], .nil, q⟩
  | _, _, _, .cons h t, q0 => by
    obtain ⟨c, e, q⟩ := seesE q0
    obtain ⟨cs, h2, q2⟩ := sees_all S t q
    exact ⟨c :: cs, .cons (S.see h e) h2, q2⟩
def biX (t : FG) (f : List D → QR → Prop) : FX := fun r m Q => t r m fun gs m1 => seesL r m1 gs fun cs => f cs fun v => Q v m1
theorem callG {K : PySem.W.Frag} {t : FG} {f : List D → QR → Prop} {σ : L2.St} {H : Hp} {Qv : VK} (h : tX K (biX t f) σ H Qv) : tG K t σ H (fun vs H1 => rDatL K f vs H1 Qv) := by
  obtain ⟨B, F, r, m, Q, S, w, k⟩ := h
  refine ⟨B, F, r, m, _, S, w, fun vs H1 ⟨F1, m1, gs, E1, M1, h1, w1⟩ => ?_⟩
  obtain ⟨cs, h2, q⟩ := sees_all (S.go E1 M1) h1 w1
  exact ⟨F1, m1, cs, _, M1, h2, q, fun z H' p => k z H' (po_back E1 M1 p fun _ q => q)⟩
theorem px_biB {x : Str} {id : String} {e : Expr} {es : List Expr} {p pos : Pos} {t : FG} {f : List D → QR → Prop} (hc : CallR X (.builtin id) (rDatL X.K f)) (hg : Gl X x) (hm : X.mg x = none) (hv : bootBuiltins x = some (.builtin id)) (ha : PA X (e :: es) (tG X.K t))
    (hn : x ≠ "__name__") (hdb : (x == ("__debug__" : Str)) = false) (he : starEach (e :: es) X.env = (false, eval e X.env) :: starEach es X.env) (hpl : (backTo pos (starEach es X.env)).any (·.1) = false) :
    PX X (.Call (.Name x p) (e :: es) [] pos) (biX t f) := PEi (pe_callB hc hg hm hv ha hn hdb he hpl) fun σ H Qv h => callG h
theorem px_biT {x : Str} {T : String} {e : Expr} {es : List Expr} {p pos : Pos} {t : FG} {f : List D → QR → Prop} (hc : CallR X (.type T) (rDatL X.K f)) (hg : Gl X x) (hm : X.mg x = none) (hv : bootBuiltins x = some (.type T)) (ha : PA X (e :: es) (tG X.K t))
    (hn : x ≠ "__name__") (hdb : (x == ("__debug__" : Str)) = false) (he : starEach (e :: es) X.env = (false, eval e X.env) :: starEach es X.env) (hpl : (backTo pos (starEach es X.env)).any (·.1) = false) :
    PX X (.Call (.Name x p) (e :: es) [] pos) (biX t f) := PEi (pe_callTy hc hg hm hv ha hn hdb he hpl) fun σ H Qv h => callG h
end
end Pd
/-! Pd: built-ins, in, isinstance, subscripts, slices. -/
namespace Pd
open PySem PySem.Spec PyProof.Rows L2
section
variable {X : Cx}
theorem VwsL.of1 {K : PySem.W.Frag} {F H : Hp} {d : D} {vs : List V} (h : VwsL K F H [d] vs) : ∃ v, vs = [v] ∧ Vw K F H d v := by
  cases h with
  | cons a t => cases t; exact ⟨_, rfl, a⟩
theorem VwsL.of2 {K : PySem.W.Frag} {F H : Hp} {d e : D} {vs : List V} (h : VwsL K F H [d, e] vs) : ∃ v u, vs = [v, u] ∧ Vw K F H d v ∧ Vw K F H e u := by
  cases h with
  | cons a t =>
    cases t with
    | cons b t => cases t; exact ⟨_, _, rfl, a, b⟩
/-- sequences with items of one form -/
theorem vw_ints {K : PySem.W.Frag} {F H : Hp} {ns : List Int} {v : V} (h : Vw K F H (.lst (ns.map .int)) v) : ∃ a, v = .ref a ∧ SqL K H a (ns.map V.int) := by
  obtain ⟨a, vs, e, r, q⟩ := h
  exact ⟨a, e, q.ints ▸ r⟩
theorem vw_bls {K : PySem.W.Frag} {F H : Hp} {ns : List Bool} {v : V} (h : Vw K F H (.lst (ns.map .bl)) v) : ∃ a, v = .ref a ∧ SqL K H a (ns.map V.bl) := by
  obtain ⟨a, vs, e, r, q⟩ := h
  exact ⟨a, e, q.bls ▸ r⟩
theorem cbi_len : CallR X (.builtin "len") (rDatL X.K (biR .len)) := by
  intro pins s σ H vs us Qv I r h
  obtain ⟨F, m, cs, Q, M, hv, w, k⟩ := h
  match cs, w, hv with
  | [.lst ds], w, hv =>
    obtain ⟨v, rfl, a, ws, rfl, ra, q⟩ := hv.of1
    exact call_len pins s σ H _ us Qv I r ⟨_, ds.length, rfl, .inl ⟨ws, ra, q.length.symm⟩, k _ _ (po_val M rep_int w)⟩
  | [.tup _ ds], w, hv =>
    obtain ⟨v, rfl, a, ws, rfl, ra, q⟩ := hv.of1
    exact call_len pins s σ H _ us Qv I r ⟨_, ds.length, rfl, .inr ⟨ws, ra.sq M.same, q.length.symm⟩, k _ _ (po_val M rep_int w)⟩
  | [.str x], w, hv =>
    obtain ⟨v, rfl, hx⟩ := hv.of1
    cases hx
    exact call_len pins s σ H _ us Qv I r ⟨_, x.length, rfl, ⟨w.1, rfl⟩, k _ _ (po_val M rep_int w.2)⟩
  | [.dK ks ds], w, hv =>
    obtain ⟨v, rfl, a, ws, rfl, ra, e, q⟩ := hv.of1
    obtain ⟨u, rfl, rx⟩ := vals1 r
    cases rx
    refine d_len I ra fun t s' I' => ?_
    have el : ws.length = ks.length := by rw [← e, List.length_map]
    rw [el]
    exact ⟨.int ks.length, H, I', ⟨t, rfl⟩, k _ _ (po_val M rep_int w)⟩
theorem cbi_abs : CallR X (.builtin "abs") (rDatL X.K (biR .abs)) := by
  intro pins s σ H vs us Qv I r h
  obtain ⟨F, m, cs, Q, M, hv, w, k⟩ := h
  match cs, w, hv with
  | [.int i], w, hv =>
    obtain ⟨v, rfl, hx⟩ := hv.of1
    cases hx
    exact call_abs pins s σ H _ us Qv I r ⟨i, rfl, k _ _ (po_val M rep_int w)⟩
theorem cbi_max2 (hc : X.calm = true) : CallR X (.builtin "max") (rDatL X.K (biR .max2)) := by
  intro pins s σ H vs us Qv I r h
  obtain ⟨F, m, cs, Q, M, hv, w, k⟩ := h
  match cs, w, hv with
  | [.int i, .int j], w, hv =>
    obtain ⟨v, u, rfl, hx, hy⟩ := hv.of2
    cases hx
    cases hy
    exact call_max2 hc pins s σ H _ us Qv I r ⟨i, j, rfl, k _ _ (po_val M rep_int w)⟩
theorem cbi_min2 (hc : X.calm = true) : CallR X (.builtin "min") (rDatL X.K (biR .min2)) := by
  intro pins s σ H vs us Qv I r h
  obtain ⟨F, m, cs, Q, M, hv, w, k⟩ := h
  match cs, w, hv with
  | [.int i, .int j], w, hv =>
    obtain ⟨v, u, rfl, hx, hy⟩ := hv.of2
    cases hx
    cases hy
    exact call_min2 hc pins s σ H _ us Qv I r ⟨i, j, rfl, k _ _ (po_val M rep_int w)⟩
theorem cbi_maxl (hc : X.calm = true) : CallR X (.builtin "max") (rDatL X.K (biR .maxl)) := by
  intro pins s σ H vs us Qv I r h
  obtain ⟨F, m, cs, Q, M, hv, w, k⟩ := h
  match cs, w, hv with
  | [.lst ds], ⟨ns, e, h0, w⟩, hv =>
    subst e
    obtain ⟨v, rfl, hx⟩ := hv.of1
    obtain ⟨a, rfl, hs⟩ := vw_ints hx
    exact cr_max hc pins s σ H _ us Qv I r ⟨a, ns, rfl, hs, h0, fun j h1 h2 => k _ _ (po_val M rep_int (w j h1 h2))⟩
theorem cbi_minl (hc : X.calm = true) : CallR X (.builtin "min") (rDatL X.K (biR .minl)) := by
  intro pins s σ H vs us Qv I r h
  obtain ⟨F, m, cs, Q, M, hv, w, k⟩ := h
  match cs, w, hv with
  | [.lst ds], ⟨ns, e, h0, w⟩, hv =>
    subst e
    obtain ⟨v, rfl, hx⟩ := hv.of1
    obtain ⟨a, rfl, hs⟩ := vw_ints hx
    exact cr_min hc pins s σ H _ us Qv I r ⟨a, ns, rfl, hs, h0, fun j h1 h2 => k _ _ (po_val M rep_int (w j h1 h2))⟩
theorem cbi_sum (hc : X.calm = true) : CallR X (.builtin "sum") (rDatL X.K (biR .sum)) := by
  intro pins s σ H vs us Qv I r h
  obtain ⟨F, m, cs, Q, M, hv, w, k⟩ := h
  match cs, w, hv with
  | [.lst ds], ⟨ns, e, w⟩, hv =>
    subst e
    obtain ⟨v, rfl, hx⟩ := hv.of1
    obtain ⟨a, rfl, hs⟩ := vw_ints hx
    exact cr_sum hc pins s σ H _ us Qv I r ⟨a, ns, rfl, hs, k _ _ (po_val M rep_int w)⟩
theorem cbi_all (hc : X.calm = true) : CallR X (.builtin "all") (rDatL X.K (biR .all)) := by
  intro pins s σ H vs us Qv I r h
  obtain ⟨F, m, cs, Q, M, hv, w, k⟩ := h
  match cs, w, hv with
  | [.lst ds], ⟨ns, e, w⟩, hv =>
    subst e
    obtain ⟨v, rfl, hx⟩ := hv.of1
    obtain ⟨a, rfl, hs⟩ := vw_bls hx
    exact cr_all hc pins s σ H _ us Qv I r ⟨a, ns, rfl, hs, k _ _ (po_val M rep_bl w)⟩
theorem cbi_any (hc : X.calm = true) : CallR X (.builtin "any") (rDatL X.K (biR .any)) := by
  intro pins s σ H vs us Qv I r h
  obtain ⟨F, m, cs, Q, M, hv, w, k⟩ := h
  match cs, w, hv with
  | [.lst ds], ⟨ns, e, w⟩, hv =>
    subst e
    obtain ⟨v, rfl, hx⟩ := hv.of1
    obtain ⟨a, rfl, hs⟩ := vw_bls hx
    exact cr_any hc pins s σ H _ us Qv I r ⟨a, ns, rfl, hs, k _ _ (po_val M rep_bl w)⟩
theorem cbi_sorted : CallR X (.builtin "sorted") (rDatL X.K (biR .sorted)) := by
  intro pins s σ H vs us Qv I r h
  obtain ⟨F, m, cs, Q, M, hv, w, k⟩ := h
  match cs, w, hv with
  | [.lst ds], ⟨ns, e, w⟩, hv =>
    subst e
    obtain ⟨v, rfl, hx⟩ := hv.of1
    obtain ⟨a, rfl, hs⟩ := vw_ints hx
    exact cr_sortedI pins s σ H _ us Qv I r ⟨a, ns, rfl, hs, fun ms p h1 h2 hp => k _ _ (po_new M hp (own_lst Reps.of_ints) (w ms h1 h2))⟩
theorem cbi_gcd : CallR X (.builtin "math.gcd") (rDatL X.K (biR .gcd)) := by
  intro pins s σ H vs us Qv I r h
  obtain ⟨F, m, cs, Q, M, hv, w, k⟩ := h
  match cs, w, hv with
  | [.int i, .int j], w, hv =>
    obtain ⟨v, u, rfl, hx, hy⟩ := hv.of2
    cases hx
    cases hy
    exact cr_gcd pins s σ H _ us Qv I r ⟨i, j, rfl, k _ _ (po_val M rep_int w)⟩
theorem cbi_list : CallR X (.type "list") (rDatL X.K (biR .list)) := by
  intro pins s σ H vs us Qv I r h
  obtain ⟨F, m, cs, Q, M, hv, w, k⟩ := h
  match cs, w, hv with
  | [.lst ds], w, hv =>
    obtain ⟨v, rfl, a, ws, rfl, ra, q⟩ := hv.of1
    exact call_list_of pins s σ H _ us Qv I r ⟨a, ws, rfl, .inl ra, fun p hp => k _ _ (po_new M hp (own_lst q) w)⟩
  | [.tup _ ds], w, hv =>
    obtain ⟨v, rfl, a, ws, rfl, ra, q⟩ := hv.of1
    exact call_list_of pins s σ H _ us Qv I r ⟨a, ws, rfl, .inr (ra.sq M.same), fun p hp => k _ _ (po_new M hp (own_lst q) w)⟩
theorem cbi_tuple : CallR X (.type "tuple") (rDatL X.K (biR .tuple)) := by
  intro pins s σ H vs us Qv I r h
  obtain ⟨F, m, cs, Q, M, hv, w, k⟩ := h
  match cs, w, hv with
  | [.lst ds], w, hv =>
    obtain ⟨v, rfl, a, ws, rfl, ra, q⟩ := hv.of1
    exact call_tuple_of pins s σ H _ us Qv I r ⟨a, ws, rfl, .inl ⟨ra, fun p hp => k _ _ (po_newF M hp (rep_tup M hp q) w)⟩⟩
  | [.tup _ ds], w, hv =>
    obtain ⟨v, rfl, a, ws, rfl, ra, q⟩ := hv.of1
    exact call_tuple_of pins s σ H _ us Qv I r ⟨a, ws, rfl, .inr ⟨ra.sq M.same, k _ _ (po_val M (by rw [Rep]; exact ⟨a, ws, rfl, ra, q⟩) w)⟩⟩
theorem cbi_int : CallR X (.type "int") (rDatL X.K (biR .int)) := by
  intro pins s σ H vs us Qv I r h
  obtain ⟨F, m, cs, Q, M, hv, w, k⟩ := h
  match cs, w, hv with
  | [.int i], w, hv =>
    obtain ⟨v, rfl, hx⟩ := hv.of1
    cases hx
    exact call_int1 pins s σ H _ us Qv I r (.inl ⟨i, rfl, k _ _ (po_val M rep_int w)⟩)
  | [.bl i], w, hv =>
    obtain ⟨v, rfl, hx⟩ := hv.of1
    cases hx
    exact call_int1 pins s σ H _ us Qv I r (.inr ⟨i, rfl, k _ _ (po_val M rep_int w)⟩)
theorem cbi_str : CallR X (.type "str") (rDatL X.K (biR .str)) := by
  intro pins s σ H vs us Qv I r h
  obtain ⟨F, m, cs, Q, M, hv, w, k⟩ := h
  match cs, w, hv with
  | [.int i], w, hv =>
    obtain ⟨v, rfl, hx⟩ := hv.of1
    cases hx
    exact call_str_int pins s σ H _ us Qv I r ⟨i, rfl, w.1, k _ _ (po_val M rep_str w.2)⟩
/-! ### in -/
theorem kV_rep {K : PySem.W.Frag} {F : Hp} {d : D} {k : Key} {v : V} (h : keyOf d = some k) (r : Rep K F d v) : v = kV k := by
  cases d with
  | int i => cases h; rw [Rep] at r; exact r
  | str i => cases h; rw [Rep] at r; exact r
  | _ => cases h
theorem kVs_rep {K : PySem.W.Frag} {F : Hp} : ∀ {ds : List D} {ks : List Key} {vs : List V}, keysOf ds = some ks → Reps K F ds vs → vs = ks.map kV
  | [], _, _, h, r => by cases h; exact r.of_nil
  | d :: ds, ks, _, h, r => by
    obtain ⟨v, t, e, r1, r2⟩ := r.of_cons
    subst e
    unfold keysOf at h
    cases q1 : keyOf d with
    | none => rw [q1] at h; cases h
    | some k =>
      cases q2 : keysOf ds with
      | none => rw [q1, q2] at h; cases h
      | some ks' =>
        rw [q1, q2] at h
        cases h
        rw [kV_rep q1 r1, kVs_rep q2 r2]
        rfl
theorem valD_rep {κ : Type} [DecidableEq κ] {K : PySem.W.Frag} {F : Hp} (k : κ) : ∀ {ws : List (κ × V)} {ds : List D}, Reps K F ds (ws.map (·.2)) →
    (valD (ws.map (·.1)) ds k = none ∧ valV ws k = none) ∨ ∃ d v, valD (ws.map (·.1)) ds k = some d ∧ valV ws k = some v ∧ Rep K F d v
  | [], _, _ => .inl ⟨by simp [valD], rfl⟩
  | (j, u) :: ws, ds, r => by
    cases ds with
    | nil => cases r.of_nil
    | cons d ds =>
      obtain ⟨v, t, e, r1, r2⟩ := r.of_cons
      injection e with e1 e2
      subst e1
      by_cases hj : j = k
      · right
        refine ⟨d, u, ?_, ?_, r1⟩
        · simp [valD, hj]
        · exact valV_pos hj
      · have r2' : Reps K F ds (ws.map (·.2)) := e2 ▸ r2
        rcases valD_rep k r2' with ⟨h1, h2⟩ | ⟨d', v', h1, h2, h3⟩
        · left
          refine ⟨?_, ?_⟩
          · simpa [valD, hj] using h1
          · rw [valV_neg hj]; exact h2
        · right
          refine ⟨d', v', ?_, ?_, h3⟩
          · simpa [valD, hj] using h1
          · rw [valV_neg hj]; exact h2
def OptRep (K : PySem.W.Frag) (F : Hp) : Option D → Option V → Prop
  | none, none => True
  | some d, some w => Rep K F d w
  | _, _ => False
theorem opt_val {κ : Type} [DecidableEq κ] {K : PySem.W.Frag} {F : Hp} (k : κ) {ws : List (κ × V)} {ds : List D} (q : Reps K F ds (ws.map (·.2))) : OptRep K F (valD (ws.map (·.1)) ds k) (valV ws k) := by
  rcases valD_rep k q with ⟨h1, h2⟩ | ⟨d', v', h1, h2, h3⟩
  · rw [h1, h2]; trivial
  · rw [h1, h2]; exact h3
/-- what a view of a dict tells of a key -/
theorem dget_ok {K : PySem.W.Frag} {F H : Hp} (s : Same F H) {c y : D} {v u : V} {o : Option D} (hc : Vw K F H c v) (hy : Rep K F y u) (e : dget c y = some o) :
    ∃ a ov, v = .ref a ∧ DGet H a u ov ∧ OptRep K F o ov := by
  cases c with
  | dK ks ds =>
    obtain ⟨a, ws, rfl, ra, ek, q⟩ := hc
    subst ek
    cases hk : keyOf y with
    | none => simp [dget, hk] at e
    | some k =>
      simp [dget, hk] at e
      subst e
      exact ⟨a, valV ws k, rfl, .inl ⟨ws, k, ra, kV_rep hk hy, rfl⟩, opt_val k q⟩
  | dT ks ds =>
    obtain ⟨a, ws, rfl, ra, ek, q⟩ := hc
    subst ek
    cases y with
    | tup kk ys =>
      cases kk with
      | true => simp [dget] at e
      | false =>
        cases hk : keysOf ys with
        | none => simp [dget, hk] at e
        | some k =>
          simp [dget, hk] at e
          subst e
          rw [Rep] at hy
          obtain ⟨b, vs, rfl, tb, rb⟩ := hy
          have ev := kVs_rep hk rb
          subst ev
          exact ⟨a, valV ws k, rfl, .inr ⟨ws, k, b, ra, rfl, s _ _ tb, rfl⟩, opt_val k q⟩
    | _ => simp [dget] at e
  | _ => simp [dget] at e
theorem OptRep.isSome {K : PySem.W.Frag} {F : Hp} : ∀ {o : Option D} {ov : Option V}, OptRep K F o ov → ov.isSome = o.isSome
  | none, none, _ => rfl
  | some _, some _, _ => rfl
  | none, some _, h => h.elim
  | some _, none, h => h.elim
def isinQ (ne : Bool) : D → D → QR → Prop := fun x y Q => isinR x y fun k => Q (.d (.bl (if ne then !k else k)))
theorem rep_vw {K : PySem.W.Frag} {F H : Hp} {d : D} {v : V} (h : Vw K F H d v) (n : (∀ ds, d ≠ .lst ds) ∧ (∀ ks ds, d ≠ .dK ks ds) ∧ ∀ ks ds, d ≠ .dT ks ds) : Rep K F d v := by
  cases d with
  | lst ds => exact absurd rfl (n.1 ds)
  | dK ks ds => exact absurd rfl (n.2.1 ks ds)
  | dT ks ds => exact absurd rfl (n.2.2 ks ds)
  | tup k ds => rw [Rep]; exact h
  | cell a => exact h.elim
  | _ => rw [Rep]; exact h
theorem dget_key {c y : D} {o : Option D} (e : dget c y = some o) : (∀ ds, y ≠ .lst ds) ∧ (∀ ks ds, y ≠ .dK ks ds) ∧ ∀ ks ds, y ≠ .dT ks ds := by
  refine ⟨fun ds z => ?_, fun ks ds z => ?_, fun ks ds z => ?_⟩ <;> subst z <;> cases c <;> simp [dget, keyOf] at e
theorem dpAll_list {K : PySem.W.Frag} {F H : Hp} {s : Same F H} {ds : List D} {v : V} (h : plainDs ds = true) (r : Vw K F H (.lst ds) v) : Dp K H v (.list (toPys ds)) := by
  have q := dp_vw s (n := 40) (d := .lst ds) h r
  exact q
theorem any_py {x : D} (hx : PyData.plain (toPy x) = true) : ∀ {ds : List D}, PyData.plainAll (toPys ds) = true → ((toPys ds).any fun y => PyData.eqv y (toPy x)) = ds.any fun z => eqD z x
  | [], _ => rfl
  | d :: ds, h => by
    simp only [toPys, PyData.plainAll, Bool.and_eq_true] at h
    simp only [toPys, List.any_cons]
    rw [eqD_py d x h.1 hx, any_py hx h.2]
theorem opd_in (hu : X.A.units + 64 < cLine) : OpR X (compareOp .In) (rDat X.K (isinQ false)) := by
  intro pins s σ H v u ov ou Qv I r1 r2 h
  obtain ⟨F, m, x, y, Q, M, hx, hy, w, k⟩ := h
  cases y with
  | lst ds =>
    obtain ⟨p1, p2, w⟩ := w
    obtain ⟨as, q1⟩ := Dp.reads I _ _ _ (dp_vw M.same p1 hx) r1
    obtain ⟨bs, q2⟩ := Dp.reads I _ _ _ (dpAll_list (s := M.same) p2 hy) r2
    obtain ⟨g1, d1⟩ := plain_py _ _ p1
    have g2 := plain_py 40 (.lst ds) p2
    have g3 : PyData.plainAll (toPys ds) = true := by simpa [toPy, PyData.plain] using g2.1
    refine SeqAt.in_list_data q2 q1 g3 g1 (by have := Nat.min_le_right (PyData.depthAll (toPys ds)) (toPy x).depth; omega) ?_
    rw [any_py g1 g3]
    exact ⟨.bl _, H, I, rfl, k _ _ (po_val M rep_bl w)⟩
  | tup kk ds =>
    obtain ⟨p1, p2, w⟩ := w
    obtain ⟨as, q1⟩ := Dp.reads I _ _ _ (dp_vw M.same p1 hx) r1
    obtain ⟨bs, q2⟩ := Dp.reads I _ _ _ (dp_vw (n := 40) (d := .tup kk ds) M.same p2 hy) r2
    obtain ⟨g1, d1⟩ := plain_py _ _ p1
    have g2 := plain_py 40 (.tup kk ds) p2
    have g3 : PyData.plainAll (toPys ds) = true := by simpa [toPy, PyData.plain] using g2.1
    refine SeqAt.in_tuple_data q2 q1 g3 g1 (by have := Nat.min_le_right (PyData.depthAll (toPys ds)) (toPy x).depth; omega) ?_
    rw [any_py g1 g3]
    exact ⟨.bl _, H, I, rfl, k _ _ (po_val M rep_bl w)⟩
  | dK ks ds =>
    obtain ⟨o, e, w⟩ := w
    obtain ⟨a, o2, rfl, g, q⟩ := dget_ok M.same hy (rep_vw hx (dget_key e)) e
    cases r2
    refine d_in (by omega) I g r1 fun s' I' => ?_
    rw [q.isSome]
    exact ⟨.bl _, H, I', rfl, k _ _ (po_val M rep_bl w)⟩
  | dT ks ds =>
    obtain ⟨o, e, w⟩ := w
    obtain ⟨a, o2, rfl, g, q⟩ := dget_ok M.same hy (rep_vw hx (dget_key e)) e
    cases r2
    refine d_in (by omega) I g r1 fun s' I' => ?_
    rw [q.isSome]
    exact ⟨.bl _, H, I', rfl, k _ _ (po_val M rep_bl w)⟩
  | _ => exact w.elim
theorem opd_notin (hu : X.A.units + 64 < cLine) : OpR X (compareOp .NotIn) (rDat X.K (isinQ true)) := by
  intro pins s σ H v u ov ou Qv I r1 r2 h
  obtain ⟨F, m, x, y, Q, M, hx, hy, w, k⟩ := h
  cases y with
  | lst ds =>
    obtain ⟨p1, p2, w⟩ := w
    obtain ⟨as, q1⟩ := Dp.reads I _ _ _ (dp_vw M.same p1 hx) r1
    obtain ⟨bs, q2⟩ := Dp.reads I _ _ _ (dpAll_list (s := M.same) p2 hy) r2
    obtain ⟨g1, d1⟩ := plain_py _ _ p1
    have g2 := plain_py 40 (.lst ds) p2
    have g3 : PyData.plainAll (toPys ds) = true := by simpa [toPy, PyData.plain] using g2.1
    refine SeqAt.notIn_list_data q2 q1 g3 g1 (by have := Nat.min_le_right (PyData.depthAll (toPys ds)) (toPy x).depth; omega) ?_
    rw [any_py g1 g3]
    exact ⟨.bl _, H, I, rfl, k _ _ (po_val M rep_bl w)⟩
  | tup kk ds =>
    obtain ⟨p1, p2, w⟩ := w
    obtain ⟨as, q1⟩ := Dp.reads I _ _ _ (dp_vw M.same p1 hx) r1
    obtain ⟨bs, q2⟩ := Dp.reads I _ _ _ (dp_vw (n := 40) (d := .tup kk ds) M.same p2 hy) r2
    obtain ⟨g1, d1⟩ := plain_py _ _ p1
    have g2 := plain_py 40 (.tup kk ds) p2
    have g3 : PyData.plainAll (toPys ds) = true := by simpa [toPy, PyData.plain] using g2.1
    refine SeqAt.notIn_tuple_data q2 q1 g3 g1 (by have := Nat.min_le_right (PyData.depthAll (toPys ds)) (toPy x).depth; omega) ?_
    rw [any_py g1 g3]
    exact ⟨.bl _, H, I, rfl, k _ _ (po_val M rep_bl w)⟩
  | dK ks ds =>
    obtain ⟨o, e, w⟩ := w
    obtain ⟨a, o2, rfl, g, q⟩ := dget_ok M.same hy (rep_vw hx (dget_key e)) e
    cases r2
    refine d_notIn (by omega) I g r1 fun s' I' => ?_
    rw [q.isSome]
    exact ⟨.bl _, H, I', rfl, k _ _ (po_val M rep_bl w)⟩
  | dT ks ds =>
    obtain ⟨o, e, w⟩ := w
    obtain ⟨a, o2, rfl, g, q⟩ := dget_ok M.same hy (rep_vw hx (dget_key e)) e
    cases r2
    refine d_notIn (by omega) I g r1 fun s' I' => ?_
    rw [q.isSome]
    exact ⟨.bl _, H, I', rfl, k _ _ (po_val M rep_bl w)⟩
  | _ => exact w.elim
/-! ### a[i] -/
theorem atI_rep {K : PySem.W.Frag} {F : Hp} {ds : List D} {vs : List V} {i : Int} {d : D} (q : Reps K F ds vs) (h : atI ds i = some d) : ∃ v, atI vs i = some v ∧ Rep K F d v := by
  unfold atI at h ⊢
  rw [q.length]
  cases e : ixN ds.length i with
  | none => rw [e] at h; cases h
  | some j =>
    rw [e] at h
    exact q.get h
theorem ixd (hu : X.A.units + 1 < cLine) : IxR X (rDat X.K ixR) := by
  intro value slice pins s σ H v u ov ou Qv I r1 r2 h hs
  obtain ⟨F, m, x, y, Q, M, hx, hy, w, k⟩ := h
  have dict : ∀ {c : D}, Vw X.K F H c v → (∃ d, dget c y = some (some d) ∧ Q (.d d)) → wpAny (model X.prog X.w) X.A (subscriptTail value slice ov ou) (EP X pins σ Qv) X.xe s := by
    intro c hc ⟨d, e, w⟩
    obtain ⟨a, o2, rfl, g, q⟩ := dget_ok M.same hc (rep_vw hy (dget_key e)) e
    cases o2 with
    | none => exact q.elim
    | some z =>
      cases r1
      exact tail_any (dict_typeIs I g) PySem.F.slot_dict_getitem.lookup (d_getItem hu I g r2 fun w' s' I' rw' => ⟨z, H, I', rw', k _ _ (po_val M q w)⟩) hs
  cases x with
  | lst ds =>
    cases y with
    | int i =>
      obtain ⟨a, ws, rfl, ra, q⟩ := hx
      cases hy
      obtain ⟨d, e, w⟩ := w
      obtain ⟨z, ez, rz⟩ := atI_rep q e
      exact ix_list value slice pins s σ H _ _ ov ou Qv I r1 r2 ⟨a, ws, i, z, rfl, rfl, ra, ez, k _ _ (po_val M rz w)⟩ hs
    | _ => exact w.elim
  | tup kk ds =>
    cases y with
    | int i =>
      obtain ⟨a, ws, rfl, ra, q⟩ := hx
      cases hy
      obtain ⟨d, e, w⟩ := w
      obtain ⟨z, ez, rz⟩ := atI_rep q e
      exact ix_tup value slice pins s σ H _ _ ov ou Qv I r1 r2 ⟨a, ws, i, z, rfl, rfl, ra.sq M.same, ez, k _ _ (po_val M rz w)⟩ hs
    | _ => exact w.elim
  | str z =>
    cases y with
    | int i =>
      cases hx
      cases hy
      obtain ⟨c, hz, e, w⟩ := w
      exact ix_str value slice pins s σ H _ _ ov ou Qv I r1 r2 ⟨z, i, c, rfl, rfl, hz, e, k _ _ (po_val M rep_str w)⟩ hs
    | _ => exact w.elim
  | dK ks ds => exact dict hx w
  | dT ks ds => exact dict hx w
  | _ => cases y <;> exact w.elim
theorem px_ix {ea eb : Expr} {pos : Pos} {a b : FH} (hu : X.A.units + 1 < cLine) (ha : PH X ea a) (hb : PH X eb b) (hs : PlainIx eb) :
    PX X (.Subscript ea eb pos) (fun r m Q => a r m fun g m1 => b r m1 fun g2 m2 => sees r m2 g fun x => sees r m2 g2 fun y => ixR x y fun v => Q v m2) := px_bin2 (pe_ix (ixd hu) ha hb hs)
/-! ### slices -/
abbrev FO := Ro → Mu → (Option Int → Mu → Prop) → Prop
def PoO (K : PySem.W.Frag) (F : Hp) (m : Mu) (H : Hp) (Q : Option Int → Mu → Prop) (o : Option Int) (H' : Hp) : Prop := ∃ F' m', Ext F m H F' m' H' ∧ Mem K F' m' H' ∧ Q o m'
def tP (K : PySem.W.Frag) (f : FO) : TO := fun σ H Qv => ∃ B F r m Q, Sb K B F r m σ H ∧ f r m Q ∧ ∀ v H', PoO K F m H Q v H' → Qv v H'
theorem POi {e : Option Expr} {t t' : TO} (h : PO X e t) (q : ∀ σ H Q, t' σ H Q → t σ H Q) : PO X e t' := ⟨fun pins s σ H Q I z => h.run pins s σ H Q I (q _ _ _ z)⟩
theorem pod_none : PO X none (tP X.K fun r m Q => Q none m) := POi po_none fun σ H Qv ⟨B, F, r, m, Q, S, w, k⟩ => k none H ⟨F, m, .refl, S.mem, w⟩
theorem pod_some {e : Expr} {a : FX} (h : PX X e a) : PO X (some e) (tP X.K fun r m Q => a r m fun v m1 => ∃ i, v.toD = .int i ∧ Q (some i) m1) :=
  POi (po_some (px_d h)) fun σ H Qv ⟨B, F, r, m, Q, S, w, k⟩ => ⟨B, F, r, m, fun d m1 => ∃ i, d = .int i ∧ Q (some i) m1, S, w, fun v H1 ⟨F1, m1, d, E1, M1, R1, i, e, w1⟩ => by
    subst e
    rw [Rep] at R1
    exact ⟨i, R1, k _ _ ⟨F1, m1, E1, M1, w1⟩⟩⟩
theorem cutV_rep {K : PySem.W.Frag} {F : Hp} {ds : List D} {vs : List V} (q : Reps K F ds vs) (lo hi : Option Int) : Reps K F (cutD ds lo hi) (cutV vs lo hi) := by
  unfold cutD cutV
  rw [q.length]
  exact (q.drop _).take _
def rSlD (K : PySem.W.Frag) : V → Option Int → Option Int → Hp → VK → Prop := fun v lo hi H Qv => ∃ F m x Q, Mem K F m H ∧ Vw K F H x v ∧ slR x lo hi Q ∧ ∀ w H', PoX K F m H (fun rv m' => m' = m ∧ Q rv) w H' → Qv w H'
theorem sld : SlR X (rSlD X.K) := by
  intro pins s σ H v ov vl vu lo hi sl Qv I r1 hs pl pu h
  obtain ⟨F, m, x, Q, M, hx, w, k⟩ := h
  cases x with
  | lst ds =>
    obtain ⟨a, ws, rfl, ra, q⟩ := hx
    exact sl_list pins s σ H _ ov vl vu lo hi sl Qv I r1 hs pl pu ⟨a, ws, rfl, ra, fun p hp => k _ _ (po_new M hp (own_lst (cutV_rep q lo hi)) w)⟩
  | tup kk ds =>
    obtain ⟨a, ws, rfl, ra, q⟩ := hx
    exact sl_tup pins s σ H _ ov vl vu lo hi sl Qv I r1 hs pl pu ⟨a, ws, rfl, ra.sq M.same, by rw [q.length]; exact w.1, fun p hp => k _ _ (po_newF M hp (rep_tup M hp (cutV_rep q lo hi)) w.2)⟩
  | str z =>
    cases hx
    refine sl_str pins s σ H _ ov vl vu lo hi sl Qv I r1 hs pl pu ⟨z, rfl, w.1, k _ _ (po_val M rep_str ?_)⟩
    have e : cutS z lo hi = ⟨(cutD z.cps.toList lo hi).toArray⟩ := by
      unfold cutS cutD
      simp [Str.length]
    rw [e]
    exact w.2
  | _ => exact w.elim
theorem px_sl {ea : Expr} {lo hi : Option Expr} {pos p2 : Pos} {a : FH} {l u : FO} (ha : PH X ea a) (hl : PO X lo (tP X.K l)) (hu : PO X hi (tP X.K u)) :
    PX X (.Subscript ea (.Slice lo hi none p2) pos) (fun r m Q => a r m fun g m1 => l r m1 fun i m2 => u r m2 fun j m3 => sees r m3 g fun c => slR c i j fun v => Q v m3) :=
  PEi (pe_slice sld ha hl hu) fun σ H Qv ⟨B, F, r, m, Q, S, w, k⟩ => ⟨B, F, r, m, _, S, w, fun v H1 ⟨F1, m1, g, E1, M1, h1, w1⟩ => by
    have S1 := S.go E1 M1
    refine ⟨B, F1, r, m1, _, S1, w1, fun i H2 ⟨F2, m2, E2, M2, w2⟩ => ?_⟩
    have S2 := S1.go E2 M2
    refine ⟨B, F2, r, m2, _, S2, w2, fun j H3 ⟨F3, m3, E3, M3, w3⟩ => ?_⟩
    obtain ⟨c, e, w3⟩ := seesE w3
    have S3 := S2.go E3 M3
    exact ⟨F3, m3, c, _, M3, S3.see ((h1.mono E2.le).mono E3.le) e, w3, fun z H' p => k z H' (po_back ((E1.trans E2 M1).trans E3 M2) M3 p fun _ q => q)⟩⟩
/-! ### xs[::-1] -/
theorem px_rev {ea : Expr} {k : Nat} {p1 p2 p3 pos : Pos} {a : FH} (ha : PH X ea a) : PX X (.Subscript ea (.Slice none none (some (.UnaryOp .USub (.Constant (.int 1) k p1) p2)) p3) pos)
    (fun r m Q => a r m fun g m1 => sees r m1 g fun c => ∃ ds, c = .lst ds ∧ Q (.o (.lst ds.reverse)) m1) :=
  PEi (pe_revL ha) fun σ H Qv ⟨B, F, r, m, Q, S, w, k⟩ => ⟨B, F, r, m, _, S, w, fun v H1 ⟨F1, m1, g, E1, M1, h1, w1⟩ => by
    obtain ⟨c, e, ds, ec, w1⟩ := seesE w1
    subst ec
    obtain ⟨b, ws, rfl, ra, q⟩ := (S.go E1 M1).see h1 e
    exact ⟨b, ws, rfl, ra, fun p hp => k _ _ (po_back (Q' := fun rv => Q rv m1) E1 M1 (po_new M1 hp (own_lst q.reverse) w1) fun _ q => q)⟩⟩
/-! ### isinstance -/
def tyN : Ty → String
  | .int => "int" | .str => "str" | .list => "list" | .tuple => "tuple" | .dict => "dict" | .bool => "bool"
def nameOf : D → String
  | .non => "NoneType" | .bl _ => "bool" | .int _ => "int" | .str _ => "str" | .lst _ => "list" | .tup _ _ => "tuple" | .dK _ _ => "dict" | .dT _ _ => "dict" | .cell _ => "object"
theorem kit_vw {pins : List (Addr × Obj)} {σ : L2.St} {H : Hp} {s : Shared} {F : Hp} {m : Mu} (I : L2.Inv X pins σ H s) (M : Mem X.K F m H) {d : D} {v : V} {u : Value} (hd : Vw X.K F H d v) (r : RelV v u) :
    ∃ P : Heap → Prop, PySem.W.KitX X.K u (.type (nameOf d)) P ∧ P s.heap ∧ u ≠ .builtin "__main__.__loader__#opaque" := by
  cases d with
  | non => cases hd; cases r; exact ⟨_, PySem.W.kitx_none, True.intro, fun z => nomatch z⟩
  | bl b => cases hd; cases r; exact ⟨_, PySem.W.kitx_bool, True.intro, fun z => nomatch z⟩
  | int i => cases hd; obtain ⟨t, q⟩ := (show ∃ t, u = Value.int i t from r); cases q; exact ⟨_, PySem.W.kitx_int, True.intro, fun z => nomatch z⟩
  | str i => cases hd; obtain ⟨t, q⟩ := (show ∃ t, u = Value.str i t from r); cases q; exact ⟨_, PySem.W.kitx_str, True.intro, fun z => nomatch z⟩
  | lst ds =>
    obtain ⟨a, ws, rfl, ra, q⟩ := hd
    cases r
    obtain ⟨_, _, ⟨o, n, h1, h2, _⟩, _⟩ := I.list ra
    exact ⟨_, PySem.W.kitx_list, ⟨o, h1, h2⟩, fun z => nomatch z⟩
  | tup kk ds =>
    obtain ⟨a, ws, rfl, ra, q⟩ := hd
    cases r
    obtain ⟨its, rv, ht, _⟩ := I.tuple (ra.sq M.same)
    obtain ⟨o, h1, h2, _⟩ := ht
    exact ⟨_, PySem.W.kitx_tuple, ⟨o, h1, h2⟩, fun z => nomatch z⟩
  | dK ks ds =>
    obtain ⟨a, ws, rfl, ra, _⟩ := hd
    cases r
    obtain ⟨_, _, vs, _, o, es, ep, h1, h2, _⟩ := ra.ok I.hok
    exact ⟨_, PySem.W.kitx_dict, ⟨o, h1, h2.1⟩, fun z => nomatch z⟩
  | dT ks ds =>
    obtain ⟨a, ws, rfl, ra, _⟩ := hd
    cases r
    obtain ⟨_, _, xs, _, o, es, ep, h1, h2, _⟩ := ra.ok I.hok
    exact ⟨_, PySem.W.kitx_dict, ⟨o, h1, h2.1⟩, fun z => nomatch z⟩
  | cell a => exact hd.elim
theorem isTy_kit : ∀ (t : Ty) (d : D) (b : Bool), isTy t d = some b → kitB (nameOf d) (tyN t) = some b := by
  have h : ∀ t : Ty, kitB "NoneType" (tyN t) = some false ∧ kitB "bool" (tyN t) = some (t == .bool || t == .int) ∧ kitB "int" (tyN t) = some (t == .int) ∧ kitB "str" (tyN t) = some (t == .str) ∧ kitB "list" (tyN t) = some (t == .list) ∧
      kitB "tuple" (tyN t) = some (t == .tuple) ∧ kitB "dict" (tyN t) = some (t == .dict) := by
    intro t
    cases t <;> decide +kernel
  intro t d b e
  obtain ⟨h1, h2, h3, h4, h5, h6, h7⟩ := h t
  cases d with
  | non => rw [show nameOf .non = "NoneType" from rfl, h1]; cases t <;> (cases e; rfl)
  | bl c => rw [show nameOf (.bl c) = "bool" from rfl, h2]; cases t <;> (cases e; rfl)
  | int c => rw [show nameOf (.int c) = "int" from rfl, h3]; cases t <;> (cases e; rfl)
  | str c => rw [show nameOf (.str c) = "str" from rfl, h4]; cases t <;> (cases e; rfl)
  | lst c => rw [show nameOf (.lst c) = "list" from rfl, h5]; cases t <;> (cases e; rfl)
  | tup k c => rw [show nameOf (.tup k c) = "tuple" from rfl, h6]; cases t <;> (cases e; rfl)
  | dK k c => rw [show nameOf (.dK k c) = "dict" from rfl, h7]; cases t <;> (cases e; rfl)
  | dT k c => rw [show nameOf (.dT k c) = "dict" from rfl, h7]; cases t <;> (cases e; rfl)
  | cell a => cases t <;> cases e
/-- isinstance(e, T) -/
def rIsiD (K : PySem.W.Frag) (t : Ty) : List V → Hp → VK → Prop := fun vs H Qv => ∃ v, vs = [v, .ty (tyN t)] ∧ rDat1 K (isiR t) v H Qv
theorem call_isiD {t : Ty} : CallR X (.builtin "isinstance") (rIsiD X.K t) := by
  intro pins s σ H vs us Qv I r h
  obtain ⟨v, rfl, F, m, x, Q, M, hx, ⟨b, e, w⟩, k⟩ := h
  obtain ⟨u1, u2, rfl, r1, r2⟩ := vals2 r
  cases (show u2 = Value.type (tyN t) from r2)
  obtain ⟨P, Z, p, nx⟩ := kit_vw I M hx r1
  exact PySem.W.kia_one Z I.kIn p (kit_ty (isTy_kit t x b e)) nx fun tk => ⟨.bl b, H, I.tok tk, rfl, k _ _ (po_val M rep_bl w)⟩
theorem px_isi {e e2 : Expr} {p pos : Pos} {a : FH} {t : Ty} (ha : PH X e a) (h2 : PE X e2 (tC (.ty (tyN t)))) (hg : Gl X "isinstance") (hm : X.mg "isinstance" = none)
    (he : starEach [e, e2] X.env = (false, eval e X.env) :: starEach [e2] X.env) (he2 : starEach [e2] X.env = (false, eval e2 X.env) :: starEach [] X.env) :
    PX X (.Call (.Name "isinstance" p) [e, e2] [] pos) (fun r m Q => a r m fun g m1 => sees r m1 g fun x => isiR t x fun v => Q v m1) :=
  PEi (pe_callB (call_isiD (t := t)) hg hm boot_isinstance (pa_cons ha (pa_cons h2 pa_nil he2) he) (by decide) (by decide) he (by rw [he2]; rfl)) fun σ H Qv q => by
    obtain ⟨B, F, r, m, Q, S, w, k⟩ := one q
    exact ⟨B, F, r, m, Q, S, w, fun v H1 p => ⟨v, rfl, k v H1 p⟩⟩
end
end Pd
/-! Pd: targets, what is walked, comprehensions. -/
namespace Pd
open PySem PySem.Spec PyProof.Rows L2
section
variable {K : PySem.W.Frag} {B : Bs} {F F' : Hp} {r : Ro} {m m' : Mu} {σ : L2.St} {H H' : Hp}
/-! ### slots are set -/
theorem Sb.setFz (S : Sb K B F r m σ H) (i : Nat) {d : D} {v : V} (h : Rep K F d v) : Sb K B F (r.set i (.fz d)) m (σ.set i (some v)) H := by
  refine ⟨S.mem, S.ext, by rw [List.length_set, List.length_set]; exact S.len, fun j sv e => ?_, fun j k c c' a hjk e1 e2 e3 e4 => ?_⟩
  · by_cases hj : i = j
    · subst hj
      have hl : i < r.length := by
        have := (List.getElem?_eq_some_iff.mp e).1
        rwa [List.length_set] at this
      rw [List.getElem?_set_self hl] at e
      cases e
      exact ⟨some v, by rw [List.getElem?_set_self (by rw [S.len]; exact hl)], v, rfl, h⟩
    · rw [List.getElem?_set_ne hj] at e
      obtain ⟨o, eo, q⟩ := S.sl j sv e
      exact ⟨o, by rw [List.getElem?_set_ne hj]; exact eo, q⟩
  · have ne : ∀ (j : Nat) (c : D), (r.set i (SV.fz d))[j]? = some (.ow c) → i ≠ j ∧ r[j]? = some (.ow c) := fun j c e => by
      by_cases hj : i = j
      · subst hj
        have hl : i < r.length := by
          have := (List.getElem?_eq_some_iff.mp e).1
          rwa [List.length_set] at this
        rw [List.getElem?_set_self hl] at e
        cases e
      · rw [List.getElem?_set_ne hj] at e
        exact ⟨hj, e⟩
    obtain ⟨n1, q1⟩ := ne j c e1
    obtain ⟨n2, q2⟩ := ne k c' e2
    rw [List.getElem?_set_ne n1] at e3
    rw [List.getElem?_set_ne n2] at e4
    exact S.ap j k c c' a hjk q1 q2 e3 e4
theorem Sb.setUn (S : Sb K B F r m σ H) (i : Nat) (o : Option V) : Sb K B F (r.set i .un) m (σ.set i o) H := by
  refine ⟨S.mem, S.ext, by rw [List.length_set, List.length_set]; exact S.len, fun j sv e => ?_, fun j k c c' a hjk e1 e2 e3 e4 => ?_⟩
  · by_cases hj : i = j
    · subst hj
      have hl : i < r.length := by
        have := (List.getElem?_eq_some_iff.mp e).1
        rwa [List.length_set] at this
      rw [List.getElem?_set_self hl] at e
      cases e
      exact ⟨o, by rw [List.getElem?_set_self (by rw [S.len]; exact hl)], trivial⟩
    · rw [List.getElem?_set_ne hj] at e
      obtain ⟨o, eo, q⟩ := S.sl j sv e
      exact ⟨o, by rw [List.getElem?_set_ne hj]; exact eo, q⟩
  · have ne : ∀ (j : Nat) (c : D), (r.set i SV.un)[j]? = some (.ow c) → i ≠ j ∧ r[j]? = some (.ow c) := fun j c e => by
      by_cases hj : i = j
      · subst hj
        have hl : i < r.length := by
          have := (List.getElem?_eq_some_iff.mp e).1
          rwa [List.length_set] at this
        rw [List.getElem?_set_self hl] at e
        cases e
      · rw [List.getElem?_set_ne hj] at e
        exact ⟨hj, e⟩
    obtain ⟨n1, q1⟩ := ne j c e1
    obtain ⟨n2, q2⟩ := ne k c' e2
    rw [List.getElem?_set_ne n1] at e3
    rw [List.getElem?_set_ne n2] at e4
    exact S.ap j k c c' a hjk q1 q2 e3 e4
/-- .. forgotten at σ, r keeps nothing of it -/
theorem Sb.wipe (S : Sb K B F r m σ H) : ∀ vs : List Nat, Sb K B F (wipeR r vs) m (L2.wipe σ vs) H
  | [] => S
  | v :: vs => (S.wipe vs).setUn v none
/-- no slot's own object stands at a -/
def Off (r : Ro) (σ : L2.St) (a : Addr) : Prop := ∀ (i : Nat) c, r[i]? = some (.ow c) → σ[i]? ≠ some (some (V.ref a))
theorem Sb.off (S : Sb K B F r m σ H) {a : Addr} (h : H a = none) : Off r σ a := fun i c e q => by
  obtain ⟨o, eo, b, eb, _, _, _, ho⟩ := S.sl i _ e
  rw [eo] at q
  subst eb
  cases q
  obtain ⟨u, eu, _⟩ := ho.some
  rw [eu] at h
  cases h
theorem Off.set {a : Addr} {i : Nat} {d : D} {v : V} (h : Off r σ a) : Off (r.set i (.fz d)) (σ.set i (some v)) a := fun j c e q => by
  by_cases hj : i = j
  · subst hj
    have hl : i < r.length := by
      have := (List.getElem?_eq_some_iff.mp e).1
      rwa [List.length_set] at this
    rw [List.getElem?_set_self hl] at e
    cases e
  · rw [List.getElem?_set_ne hj] at e q
    exact h j c e q
/-- an object that is nobody's here is written -/
theorem Sb.wr (S : Sb K B F r m σ H) {a : Addr} {o o' : HO} (ha : H a = some o) (hF : F a = none) (hm : m a = none) (hB : B.H a = none) (off : Off r σ a) (nt : NoTup o') : Sb K B F r m σ (upd H a o') := by
  have M : Mem K F m (upd H a o') := by
    refine ⟨fun b u e => ?_, fun b c e => ?_⟩
    · have hne : b ≠ a := fun z => by subst z; rw [hF] at e; cases e
      rw [upd_ne hne]; exact S.mem.same b u e
    · have hne : b ≠ a := fun z => by subst z; rw [hm] at e; cases e
      obtain ⟨h1, h2⟩ := S.mem.cells b c e
      exact ⟨h1, h2.mono .refl fun u e' => by rw [upd_ne hne]; exact e'⟩
  refine ⟨M, ?_, S.len, fun i sv e => ?_, S.ap⟩
  · refine ⟨S.ext.le, S.ext.fn, fun b u e1 e2 e3 => ?_, fun b u e => ?_, S.ext.nw, S.ext.ce⟩
    · have hne : b ≠ a := fun z => by subst z; rw [hB] at e1; cases e1
      rw [upd_ne hne]; exact S.ext.hh b u e1 e2 e3
    · have hne : b ≠ a := fun z => by subst z; rw [hB] at e; cases e
      rw [upd_ne hne]; exact S.ext.st b u e
  · obtain ⟨ov, eo, q⟩ := S.sl i sv e
    refine ⟨ov, eo, ?_⟩
    cases sv with
    | un => trivial
    | fz d => exact q
    | ow c =>
      obtain ⟨b, eb, h1, h2, h3, h4⟩ := q
      have hne : b ≠ a := fun z => by
        subst z
        rw [eb] at eo
        exact off i c e eo
      exact ⟨b, eb, h1, h2, h3, h4.mono .refl fun u e' => by rw [upd_ne hne]; exact e'⟩
end
/-! ### targets -/
section
variable {X : Cx}
theorem wipe_len (σ : L2.St) (vs : List Nat) : (L2.wipe σ vs).length = σ.length := wipe_length σ vs
theorem wipe_get (σ : L2.St) : ∀ (vs : List Nat) (j : Nat), (L2.wipe σ vs)[j]? = if j ∈ vs ∧ j < σ.length then some none else σ[j]?
  | [], j => by simp [L2.wipe]
  | v :: vs, j => by
    unfold L2.wipe
    by_cases h : v = j
    · subst h
      by_cases hl : v < σ.length
      · rw [List.getElem?_set_self (by rw [wipe_length]; exact hl), if_pos ⟨by simp, hl⟩]
      · rw [if_neg (fun z => hl z.2), List.getElem?_eq_none (by rw [List.length_set, wipe_length]; omega), List.getElem?_eq_none (by omega)]
    · rw [List.getElem?_set_ne h, wipe_get σ vs j]
      have e : (j ∈ v :: vs ∧ j < σ.length) ↔ (j ∈ vs ∧ j < σ.length) := by
        simp only [List.mem_cons]
        constructor
        · rintro ⟨z | z, l⟩
          · exact absurd z.symm h
          · exact ⟨z, l⟩
        · rintro ⟨z, l⟩
          exact ⟨.inr z, l⟩
      by_cases q : j ∈ vs ∧ j < σ.length
      · rw [if_pos q, if_pos (e.mpr q)]
      · rw [if_neg q, if_neg (fun z => q (e.mp z))]
theorem wipe_set {σ : L2.St} {vs : List Nat} {i : Nat} (o : Option V) (h : i ∈ vs) : L2.wipe (σ.set i o) vs = L2.wipe σ vs := by
  apply List.ext_getElem?
  intro j
  rw [wipe_get, wipe_get, List.length_set]
  by_cases q : j ∈ vs ∧ j < σ.length
  · rw [if_pos q, if_pos q]
  · rw [if_neg q, if_neg q]
    by_cases hj : i = j
    · subst hj
      have hl : ¬ i < σ.length := fun z => q ⟨h, z⟩
      rw [List.getElem?_eq_none (by rw [List.length_set]; omega), List.getElem?_eq_none (by omega)]
    · rw [List.getElem?_set_ne hj]
theorem wipe_wipe (σ : L2.St) (vs : List Nat) : L2.wipe (L2.wipe σ vs) vs = L2.wipe σ vs := by
  apply List.ext_getElem?
  intro j
  rw [wipe_get, wipe_len, wipe_get]
  by_cases q : j ∈ vs ∧ j < σ.length
  · rw [if_pos q, if_pos q]
  · rw [if_neg q, if_neg q]
def tgIn : Tg → List Nat → Prop
  | .name i, vs => i ∈ vs
  | .tup is, vs => ∀ i ∈ is, i ∈ vs
def tTg (K : PySem.W.Frag) (g : Tg) : TG := fun v σ H Qs => ∃ B F r m d Q, Sb K B F r m σ H ∧ Rep K F d v ∧ tgR g d r Q ∧ ∀ r' σ', Sb K B F r' m σ' H → Q r' → (∀ a, Off r σ a → Off r' σ' a) → (∀ vs, tgIn g vs → L2.wipe σ' vs = L2.wipe σ vs) → Qs σ' H
theorem PGi {e : Expr} {t t' : TG} (h : PG X e t) (q : ∀ v σ H Q, t' v σ H Q → t v σ H Q) : PG X e t' := ⟨fun pins s σ H v u Q I r z => h.run pins s σ H v u Q I r (q _ _ _ _ z)⟩
theorem pgd_name {x : Str} {pos : Pos} {i : Nat} (h : PG X (.Name x pos) (gName i)) : PG X (.Name x pos) (tTg X.K (.name i)) :=
  PGi h fun v σ H Qs ⟨B, F, r, m, d, Q, S, R, w, k⟩ => k _ _ (S.setFz i R) w (fun _ o => o.set) fun vs hi => wipe_set _ hi
/-- names of a tuple: ts, slots is -/
inductive PGn (X : Cx) : List Expr → List Nat → Prop
  | nil : PGn X [] []
  | cons {e : Expr} {es : List Expr} {i : Nat} {is : List Nat} : PG X e (gName i) → (assignEach (e :: es) X.env).map (·.2) = assign e X.env :: (assignEach es X.env).map (·.2) → PGn X es is → PGn X (e :: es) (i :: is)
def setAll (r : Ro) (ps : List (Nat × D)) : Ro := ps.foldl (fun r p => r.set p.1 (.fz p.2)) r
theorem pgs_names : ∀ {es : List Expr} {is : List Nat}, PGn X es is → ∃ t, PGs X es t ∧ ∀ (B : Bs) (F : Hp) (r : Ro) (m : Mu) (ds : List D) (vs : List V) (σ : L2.St) (H : Hp) (Qs : L2.St → Hp → Prop), Sb X.K B F r m σ H → Reps X.K F ds vs → ds.length = is.length →
    (∀ σ', Sb X.K B F (setAll r (is.zip ds)) m σ' H → (∀ a, Off r σ a → Off (setAll r (is.zip ds)) σ' a) → (∀ ws, (∀ i ∈ is, i ∈ ws) → L2.wipe σ' ws = L2.wipe σ ws) → Qs σ' H) → t vs σ H Qs
  | _, _, .nil => ⟨_, pgs_nil, fun B F r m ds vs σ H Qs S R hl k => by
      cases ds with
      | nil => exact ⟨R.of_nil, k σ S (fun _ o => o) fun _ _ => rfl⟩
      | cons _ _ => cases hl⟩
  | _, _, .cons (i := i) (is := is) h hs t => by
    obtain ⟨u, hu, q⟩ := pgs_names t
    refine ⟨_, pgs_cons h hu hs, fun B F r m ds vs σ H Qs S R hl k => ?_⟩
    cases ds with
    | nil => cases hl
    | cons d ds =>
      obtain ⟨v, vr, ev, r1, r2⟩ := R.of_cons
      refine ⟨v, vr, ev, q B F _ m ds vr _ H Qs (S.setFz i r1) r2 (by simpa using hl) fun σ' S' o' w' => k σ' S' (fun a o => o' a o.set) fun ws hw => ?_⟩
      rw [w' ws fun j hj => hw j (by simp [hj])]
      exact wipe_set _ (hw i (by simp))
theorem pgd_tup {es : List Expr} {is : List Nat} {k : Nat} {pos : Pos} (hc : X.calm = true) (h : PGn X es is) (hn : (assignEach es X.env).length = is.length) (hst : (assignEach es X.env).findIdx? (·.1) = none) : PG X (.Tuple es k pos) (tTg X.K (.tup is)) := by
  obtain ⟨t, ht, q⟩ := pgs_names h
  refine PGi (pg_tup hc ht hn hst) fun v σ H Qs ⟨B, F, r, m, d, Q, S, R, w, k⟩ => ?_
  cases d with
  | tup kk ds =>
    obtain ⟨hl, w⟩ := w
    rw [Rep] at R
    obtain ⟨a, vs, ev, ta, ra⟩ := R
    exact ⟨a, vs, ev, ta.sq S.mem.same, by rw [ra.length, hl], q B F r m ds vs σ H Qs S ra hl fun σ' S' o w' => k _ σ' S' w o w'⟩
  | _ => exact w.elim
/-! ### what is walked -/
structure Iw (K : PySem.W.Frag) (J : It) (ds : List D) (F0 : Hp) : Prop where
  go : ∀ F m H i, Mem K F m H → Le F0 F → i < ds.length → J.go i H
  stop : ∀ F m H i, Mem K F m H → Le F0 F → ds.length ≤ i → J.stop i H
  yld : ∀ F m H i x H' d, Mem K F m H → Le F0 F → ds[i]? = some d → J.yld i H x H' → ∃ F', Ext F m H F' m H' ∧ Mem K F' m H' ∧ Rep K F' d x
def PoI (K : PySem.W.Frag) (F : Hp) (m : Mu) (H : Hp) (Q : List D → Mu → Prop) (J : It) (H' : Hp) : Prop := ∃ F' m' ds, Ext F m H F' m' H' ∧ Mem K F' m' H' ∧ Iw K J ds F' ∧ Q ds m'
def tI (K : PySem.W.Frag) (f : FL) : TI := fun σ H R => ∃ B F r m Q, Sb K B F r m σ H ∧ f r m Q ∧ ∀ J H', PoI K F m H Q J H' → R J H'
abbrev PId (X : Cx) (tg e : Expr) (f : FL) : Prop := PI X tg e (tI X.K f)
theorem PIi {tg e : Expr} {t t' : TI} (h : PI X tg e t) (q : ∀ σ H R, t' σ H R → t σ H R) : PI X tg e t' := ⟨fun pins s σ H R I z => h.run pins s σ H R I (q _ _ _ z)⟩
theorem iw_list {K : PySem.W.Frag} {F0 : Hp} {a : Addr} {vs : List V} {ds : List D} (ra : SqL K F0 a vs) (q : Reps K F0 ds vs) : Iw K (Itl K a) ds F0 := by
  have sq : ∀ {F m H}, Mem K F m H → Le F0 F → SqL K H a vs := fun M l => M.same.sqL (l.sq ra)
  refine ⟨fun F m H i M l h => ?_, fun F m H i M l h => ⟨vs, sq M l, by rw [q.length]; exact h⟩, fun F m H i x H' d M l e ⟨e1, e2⟩ => ?_⟩
  · have hl : i < vs.length := by rw [q.length]; exact h
    exact ⟨vs, vs[i], sq M l, List.getElem?_eq_getElem hl⟩
  · subst e1
    obtain ⟨v, ev, rv⟩ := q.get e
    have ex := e2 vs (sq M l)
    rw [ev] at ex
    cases ex
    exact ⟨F, .refl, M, rv.mono l⟩
theorem iw_tup {K : PySem.W.Frag} {F0 : Hp} {a : Addr} {k : Bool} {vs : List V} {ds : List D} (ra : TupF K F0 k a vs) (q : Reps K F0 ds vs) : Iw K (Itt K a) ds F0 := by
  have sq : ∀ {F m H}, Mem K F m H → Le F0 F → SqT K H a vs := fun M l => (l.tupF ra).sq M.same
  refine ⟨fun F m H i M l h => ?_, fun F m H i M l h => ⟨vs, sq M l, by rw [q.length]; exact h⟩, fun F m H i x H' d M l e ⟨e1, e2⟩ => ?_⟩
  · have hl : i < vs.length := by rw [q.length]; exact h
    exact ⟨vs, vs[i], sq M l, List.getElem?_eq_getElem hl⟩
  · subst e1
    obtain ⟨v, ev, rv⟩ := q.get e
    have ex := e2 vs (sq M l)
    rw [ev] at ex
    cases ex
    exact ⟨F, .refl, M, rv.mono l⟩
theorem iw_rng {K : PySem.W.Frag} {F0 : Hp} (lo : Int) (n : Nat) : Iw K (Itr lo n) ((List.range n).map fun (k : Nat) => .int (lo + (k : Int))) F0 := by
  refine ⟨fun F m H i M l h => ?_, fun F m H i M l h => ?_, fun F m H i x H' d M l e ⟨e1, e2⟩ => ?_⟩
  · show i < n
    simpa using h
  · show n ≤ i
    simpa using h
  · subst e1 e2
    have hi : i < n := by simpa using (List.getElem?_eq_some_iff.mp e).1
    have ed : d = .int (lo + (i : Int)) := by
      rw [List.getElem?_map, List.getElem?_range hi] at e
      cases e
      rfl
    subst ed
    exact ⟨F, .refl, M, rep_int⟩
theorem iw_rngC {K : PySem.W.Frag} {F0 : Hp} (lo c : Int) (n : Nat) : Iw K (Itc lo c n) ((List.range n).map fun (k : Nat) => .int (lo + (k : Int) * c)) F0 := by
  refine ⟨fun F m H i M l h => ?_, fun F m H i M l h => ?_, fun F m H i x H' d M l e ⟨e1, e2⟩ => ?_⟩
  · show i < n
    simpa using h
  · show n ≤ i
    simpa using h
  · subst e1 e2
    have hi : i < n := by simpa using (List.getElem?_eq_some_iff.mp e).1
    have ed : d = .int (lo + (i : Int) * c) := by
      rw [List.getElem?_map, List.getElem?_range hi] at e
      cases e
      rfl
    subst ed
    exact ⟨F, .refl, M, rep_int⟩
theorem iw_str {K : PySem.W.Frag} {F0 : Hp} (z : Str) : Iw K (Its z) (z.cps.toList.map fun c => .str ⟨#[c]⟩) F0 := by
  refine ⟨fun F m H i M l h => ?_, fun F m H i M l h => ?_, fun F m H i x H' d M l e ⟨e1, c, ec, e2⟩ => ?_⟩
  · show i < z.cps.size
    simpa using h
  · show z.cps.size ≤ i
    simpa using h
  · subst e1 e2
    rw [List.getElem?_map, Array.getElem?_toList, ec] at e
    cases e
    exact ⟨F, .refl, M, rep_str⟩
theorem iw_key {K : PySem.W.Frag} {F0 : Hp} {d : Addr} {o : Obj} {ws : List (Key × V)} (h : F0 d = some (.frz o (.dK ws))) : Iw K (Itk d o ws) ((ws.map (·.1)).map kD) F0 := by
  have at_ : ∀ {F m H}, Mem K F m H → Le F0 F → H d = some (.frz o (.dK ws)) := fun M l => by
    rcases l d _ h with e | ⟨q, _⟩
    · exact M.same d _ e
    · rcases q with ⟨_, z⟩ | ⟨_, z⟩ <;> cases z
  refine ⟨fun F m H i M l h => ⟨at_ M l, by simpa using h⟩, fun F m H i M l h => ⟨at_ M l, by simpa using h⟩, fun F m H i x H' dd M l e ⟨e1, k, v, ek, ex⟩ => ?_⟩
  subst e1 ex
  refine ⟨F, .refl, M, ?_⟩
  rw [List.getElem?_map, List.getElem?_map, ek] at e
  cases e
  cases k with
  | inl i => exact rep_int
  | inr z => exact rep_str
theorem keys_rep {K : PySem.W.Frag} {F : Hp} : ∀ k : List Key, Reps K F (k.map kD) (k.map kV)
  | [] => .nil
  | .inl i :: ks => .cons rep_int (keys_rep ks)
  | .inr z :: ks => .cons rep_str (keys_rep ks)
theorem iw_keyT {K : PySem.W.Frag} {F0 : Hp} {d : Addr} {o : Obj} {ws : List (List Key × V)} (h : F0 d = some (.frz o (.dT ws))) : Iw K (Itkt d o ws) ((ws.map (·.1)).map fun k => .tup false (k.map kD)) F0 := by
  have at_ : ∀ {F m H}, Mem K F m H → Le F0 F → H d = some (.frz o (.dT ws)) := fun M l => by
    rcases l d _ h with e | ⟨q, _⟩
    · exact M.same d _ e
    · rcases q with ⟨_, z⟩ | ⟨_, z⟩ <;> cases z
  refine ⟨fun F m H i M l h => ⟨at_ M l, by simpa using h⟩, fun F m H i M l h => ⟨at_ M l, by simpa using h⟩, fun F m H i x H' dd M l e ⟨e1, k, v, q, ek, ex, eq⟩ => ?_⟩
  subst e1 ex
  rw [List.getElem?_map, List.getElem?_map, ek] at e
  cases e
  -- the key's own tuple is taken into F
  have le : Le F (upd F q (.tup (k.map kV))) := .of fun b u z => by
    by_cases hb : b = q
    · subst hb
      rw [M.same b u z] at eq
      cases eq
      exact upd_same
    · rw [upd_ne hb]; exact z
  refine ⟨upd F q (.tup (k.map kV)), ⟨le, fun b u e1 e2 nt => ?_, fun b u e1 _ _ => e1, fun b u e1 => ⟨u, e1⟩, fun b c e1 => .inl ⟨c, e1⟩, fun b c e1 => ⟨c, e1⟩⟩, ⟨fun b u e1 => ?_, fun b c e1 => ?_⟩, ?_⟩
  · have hb : b ≠ q := fun z => by subst z; rw [eq] at e2; cases e2; exact nt _ rfl
    rw [upd_ne hb]; exact e1
  · by_cases hb : b = q
    · subst hb; rw [upd_same] at e1; rw [eq]; exact e1
    · rw [upd_ne hb] at e1; exact M.same b u e1
  · obtain ⟨h1, h2⟩ := M.cells b c e1
    have hb : b ≠ q := fun z => by
      subst z
      obtain ⟨u, eu, nt, _⟩ := h2.some
      rw [eq] at eu
      cases eu
      exact nt _ rfl
    exact ⟨by rw [upd_ne hb]; exact h1, h2.mono le fun _ z => z⟩
  · rw [Rep]
    exact ⟨q, _, rfl, (upd_same : upd F q (.tup (k.map kV)) q = some (.tup (k.map kV))), keys_rep k⟩
/-- whatever may be walked -/
def iAny (K : PySem.W.Frag) (te : TE) : TI := fun σ H R => te σ H fun v H1 =>
  (∃ a vs, v = .ref a ∧ SqL K H1 a vs ∧ R (Itl K a) H1) ∨ (∃ a vs, v = .ref a ∧ SqT K H1 a vs ∧ R (Itt K a) H1) ∨ (∃ z, v = .str z ∧ R (Its z) H1) ∨
  (∃ d o ws, v = .ref d ∧ H1 d = some (.frz o (.dK ws)) ∧ R (Itk d o ws) H1) ∨ (∃ d o ws, v = .ref d ∧ H1 d = some (.frz o (.dT ws)) ∧ R (Itkt d o ws) H1) ∨
  (∃ d ws, v = .ref d ∧ H1 d = some (.dK ws) ∧ ∀ o, R (Itk d o ws) (upd H1 d (.frz o (.dK ws)))) ∨ (∃ d ws, v = .ref d ∧ H1 d = some (.dT ws) ∧ ∀ o, R (Itkt d o ws) (upd H1 d (.frz o (.dT ws))))
theorem pi_any {tg e : Expr} {te : TE} (he : PE X e te) : PI X tg e (iAny X.K te) := by
  refine ⟨fun pins s σ H R I0 h => ?_⟩
  refine thn (he.run pins s σ H _ I0 h) fun u s1 ⟨x, H1, I, rx, q⟩ => ?_
  have dk : ∀ {H2 : Hp} {d : Addr} {o : Obj} {ws : List (Key × V)}, L2.Inv X pins σ H2 s1 → H2 d = some (.frz o (.dK ws)) → R (Itk d o ws) H2 → wpAny (model X.prog X.w) X.A (pyIter (.ref d)) (PIE X pins σ tg R) X.xe s1 := fun J e2 r2 => by
    obtain ⟨n1, n2, n3, es, ep, vs, n4, n5, _, _⟩ := J.frzK e2
    exact iter_keys n1 n2 n3 n4 (pi_one (tk := s1.toks) J _ (turn_keys _ n4) ⟨_, Heap.get?_push_size _ rfl, rfl, by rw [n5] <;> rfl⟩ r2)
  have dt : ∀ {H2 : Hp} {d : Addr} {o : Obj} {ws : List (List Key × V)}, L2.Inv X pins σ H2 s1 → H2 d = some (.frz o (.dT ws)) → R (Itkt d o ws) H2 → wpAny (model X.prog X.w) X.A (pyIter (.ref d)) (PIE X pins σ tg R) X.xe s1 := fun J e2 r2 => by
    obtain ⟨n1, n2, n3, es, ep, n4, n5, _⟩ := J.frzT e2
    exact iter_keys n1 n2 n3 n4 (pi_one (tk := s1.toks) J _ (turn_keysT _ n4) ⟨_, Heap.get?_push_size _ rfl, rfl, by rw [n5] <;> rfl⟩ r2)
  rcases q with ⟨a, vs, e1, hs, r2⟩ | ⟨a, vs, e1, hs, r2⟩ | ⟨z, e1, r2⟩ | ⟨d, o, ws, e1, e2, r2⟩ | ⟨d, o, ws, e1, e2, r2⟩ | ⟨d, ws, e1, e2, r2⟩ | ⟨d, ws, e1, e2, r2⟩
  · subst e1
    cases rx
    obtain ⟨its, _, p, _⟩ := I.list hs
    exact wpAny_pyIter_list p.isList (pi_one (tk := s1.toks) I _ (turn_list a _) ⟨_, Heap.get?_push_size _ rfl, rfl, rfl⟩ r2)
  · subst e1
    cases rx
    obtain ⟨its, _, p, _⟩ := I.tuple hs
    exact wpAny_pyIter_tuple (show s1.heap.IsTuple a its.toArray from p) (pi_one (tk := s1.toks) I _ (turn_tuple a _) ⟨_, Heap.get?_push_size _ rfl, rfl, rfl⟩ r2)
  · subst e1
    obtain ⟨t, rfl⟩ := rx
    cases hw : z.cps.all (· < 128)
    · exact wpAny_pyIter_wide hw (pi_one (tk := s1.toks) I _ (turn_str _ z t _ (.inr rfl)) ⟨_, Heap.get?_push_size _ rfl, rfl, rfl⟩ r2)
    · exact wpAny_pyIter_ascii hw (pi_one (tk := s1.toks) I _ (turn_str _ z t _ (.inl rfl)) ⟨_, Heap.get?_push_size _ rfl, rfl, rfl⟩ r2)
  · subst e1
    cases rx
    exact dk I e2 r2
  · subst e1
    cases rx
    exact dt I e2 r2
  · subst e1
    cases rx
    obtain ⟨od, J⟩ := I.lock e2 trivial
    exact dk J upd_same (r2 od)
  · subst e1
    cases rx
    obtain ⟨od, J⟩ := I.lock e2 trivial
    exact dt J upd_same (r2 od)
/-- a dict is locked for ever -/
theorem lock_ok {K : PySem.W.Frag} {F : Hp} {m : Mu} {H : Hp} {d : Addr} {u : HO} (M : Mem K F m H) (e : F d = some u) (hu : (∃ ws, u = .dK ws) ∨ ∃ ws, u = .dT ws) (o : Obj) : Ext F m H (upd F d (.frz o u)) m (upd H d (.frz o u)) ∧ Mem K (upd F d (.frz o u)) m (upd H d (.frz o u)) := by
  have le : Le F (upd F d (.frz o u)) := fun b v q => by
    by_cases hb : b = d
    · subst hb
      rw [e] at q
      cases q
      exact .inr ⟨hu, o, upd_same⟩
    · rw [upd_ne hb]; exact .inl q
  refine ⟨⟨le, fun b v e1 e2 _ => ?_, fun b v e1 e2 e3 => ?_, fun b v e1 => ?_, fun b c e1 => .inl ⟨c, e1⟩, fun b c e1 => ⟨c, e1⟩⟩, ⟨fun b v e1 => ?_, fun b c e1 => ?_⟩⟩
  · have hb : b ≠ d := fun z => by subst z; rw [e] at e1; cases e1
    rw [upd_ne hb]; exact e1
  · have hb : b ≠ d := fun z => by
      subst z
      rcases e3 with e3 | ⟨ts, e3⟩
      · rw [e] at e3; cases e3
      · rw [M.same b u e] at e1
        cases e1
        rcases hu with ⟨_, z⟩ | ⟨_, z⟩ <;> (rw [z] at e3; cases e3)
    rw [upd_ne hb]; exact e1
  · by_cases hb : b = d
    · subst hb; exact ⟨_, upd_same⟩
    · exact ⟨v, by rw [upd_ne hb]; exact e1⟩
  · by_cases hb : b = d
    · subst hb; rw [upd_same] at e1 ⊢; exact e1
    · rw [upd_ne hb] at e1 ⊢; exact M.same b v e1
  · obtain ⟨h1, h2⟩ := M.cells b c e1
    have hb : b ≠ d := fun z => by subst z; rw [e] at h1; cases h1
    exact ⟨by rw [upd_ne hb]; exact h1, h2.mono le fun v z => by rw [upd_ne hb]; exact z⟩
theorem PoI.back {K : PySem.W.Frag} {F F1 : Hp} {m m1 : Mu} {H H1 H' : Hp} {Q : List D → Mu → Prop} {J : It} (E1 : Ext F m H F1 m1 H1) (M1 : Mem K F1 m1 H1) (p : PoI K F1 m1 H1 Q J H') : PoI K F m H Q J H' := by
  obtain ⟨F3, m3, ds, E3, M3, R3, q⟩ := p
  exact ⟨F3, m3, ds, E1.trans E3 M1, M3, R3, q⟩
/-- over frozen data -/
theorem pid_any {tg e : Expr} {f : FX} (h : PX X e f) : PId X tg e (itOfX f) := PIi (pi_any (px_d h)) fun σ H R ⟨B, F, r, m, Q, S, w, k⟩ =>
  ⟨B, F, r, m, fun d m1 => ∃ ds, itemsD d = some ds ∧ Q ds m1, S, w, fun v H1 ⟨F1, m1, d, E1, M1, R1, ds, e, w1⟩ => by
    cases d with
    | lst es =>
      cases e
      rw [Rep] at R1
      obtain ⟨a, vs, ev, ra, q⟩ := R1
      exact .inl ⟨a, vs, ev, M1.same.sqL ra, k _ _ ⟨F1, m1, _, E1, M1, iw_list ra q, w1⟩⟩
    | tup kk es =>
      cases e
      rw [Rep] at R1
      obtain ⟨a, vs, ev, ra, q⟩ := R1
      exact .inr (.inl ⟨a, vs, ev, ra.sq M1.same, k _ _ ⟨F1, m1, _, E1, M1, iw_tup ra q, w1⟩⟩)
    | str z =>
      cases e
      rw [Rep] at R1
      exact .inr (.inr (.inl ⟨z, R1, k _ _ ⟨F1, m1, _, E1, M1, iw_str z, w1⟩⟩))
    | dK ks es =>
      cases e
      rw [Rep] at R1
      obtain ⟨a, ws, ev, ra, ek, q⟩ := R1
      subst ek
      rcases ra with ra | ⟨o, ra⟩
      · refine .inr (.inr (.inr (.inr (.inr (.inl ⟨a, ws, ev, M1.same _ _ ra, fun o => ?_⟩)))))
        obtain ⟨E2, M2⟩ := lock_ok M1 ra (.inl ⟨_, rfl⟩) o
        exact k _ _ (.back E1 M1 ⟨_, m1, _, E2, M2, iw_key upd_same, w1⟩)
      · exact .inr (.inr (.inr (.inl ⟨a, o, ws, ev, M1.same _ _ ra, k _ _ ⟨F1, m1, _, E1, M1, iw_key ra, w1⟩⟩)))
    | dT ks es =>
      cases e
      rw [Rep] at R1
      obtain ⟨a, ws, ev, ra, ek, q⟩ := R1
      subst ek
      rcases ra with ra | ⟨o, ra⟩
      · refine .inr (.inr (.inr (.inr (.inr (.inr ⟨a, ws, ev, M1.same _ _ ra, fun o => ?_⟩)))))
        obtain ⟨E2, M2⟩ := lock_ok M1 ra (.inr ⟨_, rfl⟩) o
        exact k _ _ (.back E1 M1 ⟨_, m1, _, E2, M2, iw_keyT upd_same, w1⟩)
      · exact .inr (.inr (.inr (.inr (.inl ⟨a, o, ws, ev, M1.same _ _ ra, k _ _ ⟨F1, m1, _, E1, M1, iw_keyT ra, w1⟩⟩))))
    | _ => cases e⟩
/-! ### range -/
theorem rep_int_inv {K : PySem.W.Frag} {F : Hp} {i : Int} {v : V} (h : Rep K F (.int i) v) : v = .int i := by rw [Rep] at h; exact h
theorem rng_size {i j c : Int} (hi : smallI i) (hj : smallI j) (h0 : c = -1 ∨ c = 2) : RgC i j c (rng3D i j c).length := by
  obtain ⟨h1, h2⟩ := hi
  obtain ⟨h3, h4⟩ := hj
  rcases h0 with h0 | h0
  · subst h0
    have e : (rng3D i j (-1)).length = (i - j).toNat := by simp [rng3D]
    rw [e]
    exact RgC.neg h1 h2 h3 h4
  · subst h0
    have e : (rng3D i j 2).length = ((j - i + 1) / 2).toNat := by simp [rng3D]
    rw [e]
    have sz : Builtin.Range.rangeSize i j 2 = (((j - i + 1) / 2).toNat : Int) := by
      unfold Builtin.Range.rangeSize
      rw [if_pos (by decide)]
      split <;> omega
    refine ⟨by decide, by decide, ?_, sz⟩
    unfold Builtin.Range.small
    rw [sz]
    simp only [Builtin.Range.rangeFitsLong, Bool.and_eq_true, Bool.or_eq_true, decide_eq_true_eq, beq_iff_eq, show (2 : Int) > 0 by decide, if_true]
    omega
theorem pid_rng1 {tg a : Expr} {p pos : Pos} {f : FX} (hg : Gl X "range") (hm : X.mg "range" = none) (ha : PX X a f) (hs : starEach [a] X.env = [(false, eval a X.env)]) :
    PId X tg (.Call (.Name "range" p) [a] [] pos) (fun r m Q => f r m fun v m1 => rngR [v.toD] fun is => Q is m1) :=
  PIi (pi_range1 hg hm (pa_cons (px_d ha) pa_nil hs) hs) fun σ H R ⟨B, F, r, m, Q, S, w, k⟩ => ⟨B, F, r, m, fun d m1 => rngR [d] fun is => Q is m1, S, w, fun v H1 ⟨F1, m1, d, E1, M1, R1, w1⟩ => by
    cases d with
    | int j =>
      have e := rep_int_inv R1
      subst e
      refine ⟨j, rfl, w1.1.1, w1.1.2, k _ _ ⟨F1, m1, _, E1, M1, ?_, w1.2⟩⟩
      have z := iw_rng (K := X.K) (F0 := F1) 0 j.toNat
      unfold rngD
      rw [Int.sub_zero]
      exact z
    | _ => exact w1.elim⟩
theorem pid_rng2 {tg a b : Expr} {p pos : Pos} {f g : FX} (hg : Gl X "range") (hm : X.mg "range" = none) (ha : PX X a f) (hb : PX X b g) (hs : starEach [a, b] X.env = [(false, eval a X.env), (false, eval b X.env)]) (hs2 : starEach [b] X.env = [(false, eval b X.env)]) :
    PId X tg (.Call (.Name "range" p) [a, b] [] pos) (fun r m Q => f r m fun v m1 => g r m1 fun u m2 => rngR [v.toD, u.toD] fun is => Q is m2) :=
  PIi (pi_range2 hg hm (pa_cons (px_d ha) (pa_cons (px_d hb) pa_nil hs2) (by rw [hs, hs2])) hs hs2) fun σ H R ⟨B, F, r, m, Q, S, w, k⟩ =>
    ⟨B, F, r, m, fun d m1 => g r m1 fun u m2 => rngR [d, u.toD] fun is => Q is m2, S, w, fun v H1 ⟨F1, m1, d, E1, M1, R1, w1⟩ =>
      ⟨B, F1, r, m1, fun d2 m2 => rngR [d, d2] fun is => Q is m2, S.go E1 M1, w1, fun u H2 ⟨F2, m2, d2, E2, M2, R2, w2⟩ => by
        cases d with
        | int i =>
          cases d2 with
          | int j =>
            have e := rep_int_inv R1
            have e2 := rep_int_inv R2
            subst e e2
            exact ⟨i, j, rfl, ⟨w2.1.1, w2.1.2, w2.2.1.1, w2.2.1.2⟩, k _ _ ⟨F2, m2, _, E1.trans E2 M1, M2, iw_rng i (j - i).toNat, w2.2.2⟩⟩
          | _ => exact w2.elim
        | _ => cases d2 <;> exact w2.elim⟩⟩
theorem pid_rng3 {tg a b c : Expr} {p pos : Pos} {f g l : FX} (hg : Gl X "range") (hm : X.mg "range" = none) (ha : PX X a f) (hb : PX X b g) (hc : PX X c l) (hs : starEach [a, b, c] X.env = (false, eval a X.env) :: starEach [b, c] X.env) (hs2 : starEach [b, c] X.env = (false, eval b X.env) :: starEach [c] X.env)
    (hs3 : starEach [c] X.env = (false, eval c X.env) :: starEach [] X.env) (hpl : (backTo pos (starEach [b, c] X.env)).any (·.1) = false) :
    PId X tg (.Call (.Name "range" p) [a, b, c] [] pos) (fun r m Q => f r m fun v m1 => g r m1 fun u m2 => l r m2 fun z m3 => rngR [v.toD, u.toD, z.toD] fun is => Q is m3) :=
  PIi (pi_range3 hg hm (pa_cons (px_d ha) (pa_cons (px_d hb) (pa_cons (px_d hc) pa_nil hs3) hs2) hs) hs hpl) fun σ H R ⟨B, F, r, m, Q, S, w, k⟩ =>
    ⟨B, F, r, m, fun d m1 => g r m1 fun u m2 => l r m2 fun z m3 => rngR [d, u.toD, z.toD] fun is => Q is m3, S, w, fun v H1 ⟨F1, m1, d, E1, M1, R1, w1⟩ => by
      have S1 := S.go E1 M1
      refine ⟨B, F1, r, m1, fun d2 m2 => l r m2 fun z m3 => rngR [d, d2, z.toD] fun is => Q is m3, S1, w1, fun u H2 ⟨F2, m2, d2, E2, M2, R2, w2⟩ => ?_⟩
      refine ⟨B, F2, r, m2, fun d3 m3 => rngR [d, d2, d3] fun is => Q is m3, S1.go E2 M2, w2, fun z H3 ⟨F3, m3, d3, E3, M3, R3, w3⟩ => ?_⟩
      cases d with
      | int i =>
        cases d2 with
        | int j =>
          cases d3 with
          | int c =>
            have e := rep_int_inv R1
            have e2 := rep_int_inv R2
            have e3 := rep_int_inv R3
            subst e e2 e3
            obtain ⟨h1, h2, h3, w3⟩ := w3
            refine ⟨i, j, c, _, rfl, rng_size h1 h2 h3, k _ _ ⟨F3, m3, _, (E1.trans E2 M1).trans E3 M2, M3, ?_, w3⟩⟩
            have q : ∃ n, rng3D i j c = (List.range n).map fun (k : Nat) => D.int (i + (k : Int) * c) := by
              exact ⟨_, rfl⟩
            obtain ⟨n, en⟩ := q
            rw [en, List.length_map, List.length_range]
            exact iw_rngC i c n
          | _ => exact w3.elim
        | _ => cases d3 <;> exact w3.elim
      | _ => cases d2 <;> (cases d3 <;> exact w3.elim)⟩
/-! ### enumerate -/
theorem enuD_get : ∀ (xs : List D) (n i : Nat), (enuD n xs)[i]? = (xs[i]?).map fun x => .tup false [.int (n + i : Nat), x]
  | [], n, i => by simp [enuD]
  | x :: xs, n, 0 => by simp [enuD]
  | x :: xs, n, i + 1 => by
    simp only [enuD, List.getElem?_cons_succ]
    rw [enuD_get xs (n + 1) i]
    have e : n + 1 + i = n + (i + 1) := by omega
    rw [e]
theorem enuD_len (xs : List D) (n : Nat) : (enuD n xs).length = xs.length := by
  induction xs generalizing n with
  | nil => rfl
  | cons x xs ih => simp [enuD, ih]
theorem iw_enum {K : PySem.W.Frag} {F0 : Hp} {a : Addr} {vs : List V} {ds : List D} (ra : SqL K F0 a vs) (q : Reps K F0 ds vs) : Iw K (Ite K a) (enuD 0 ds) F0 := by
  have sq : ∀ {F m H}, Mem K F m H → Le F0 F → SqL K H a vs := fun M l => M.same.sqL (l.sq ra)
  refine ⟨fun F m H i M l h => ?_, fun F m H i M l h => ⟨vs, sq M l, by rw [q.length]; rw [enuD_len] at h; exact h⟩, fun F m H i x H' d M l e ⟨T, y, ex, hT, eH, ey⟩ => ?_⟩
  · rw [enuD_len] at h
    have hl : i < vs.length := by rw [q.length]; exact h
    exact ⟨vs, vs[i], sq M l, List.getElem?_eq_getElem hl⟩
  · subst ex eH
    rw [enuD_get, Option.map_eq_some_iff] at e
    obtain ⟨z, ez, e⟩ := e
    subst e
    obtain ⟨v, ev, rv⟩ := q.get ez
    have e3 := ey vs (sq M l)
    rw [ev] at e3
    have e4 : y = v := (Option.some.inj e3).symm
    subst e4
    refine ⟨_, .newF M hT _, M.newF hT _, ?_⟩
    have r2 : Reps K F [.int ((0 + i : Nat) : Int), z] [.int (i : Nat), y] := .cons (by rw [Rep, Nat.zero_add]) (.cons (rv.mono l) .nil)
    exact rep_tup M hT r2
theorem pid_enu {e : Expr} {p pos tpos : Pos} {elts : List Expr} {kk : Nat} {f : FX} (hg : Gl X "enumerate") (hm : X.mg "enumerate" = none) (ha : PX X e f) (hs : starEach [e] X.env = [(false, eval e X.env)]) :
    PId X (.Tuple elts kk tpos) (.Call (.Name "enumerate" p) [e] [] pos) (fun r m Q => f r m fun u m1 => ∃ xs, u.toD = .lst xs ∧ Q (enuD 0 xs) m1) :=
  PIi (pi_enum hg hm (pa_cons (px_d ha) pa_nil hs) hs) fun σ H R ⟨B, F, r, m, Q, S, w, k⟩ => ⟨B, F, r, m, fun d m1 => ∃ xs, d = .lst xs ∧ Q (enuD 0 xs) m1, S, w, fun v H1 ⟨F1, m1, d, E1, M1, R1, xs, e, w1⟩ => by
    subst e
    rw [Rep] at R1
    obtain ⟨a, vs, ev, ra, q⟩ := R1
    subst ev
    exact ⟨a, vs, rfl, M1.same.sqL ra, k _ _ ⟨F1, m1, _, E1, M1, iw_enum ra q, w1⟩⟩⟩
end
end Pd
/-! Pd: comprehensions. -/
namespace Pd
open PySem PySem.Spec PyProof.Rows L2
section
variable {K : PySem.W.Frag} {B : Bs} {F F1 F' : Hp} {r : Ro} {m m1 m' : Mu} {σ : L2.St} {H H1 H' : Hp}
theorem Mem.wr (M : Mem K F m H) {a : Addr} (hF : F a = none) (hm : m a = none) (o : HO) : Mem K F m (upd H a o) := by
  refine ⟨fun b u e => ?_, fun b c e => ?_⟩
  · have hne : b ≠ a := fun z => by subst z; rw [hF] at e; cases e
    rw [upd_ne hne]; exact M.same b u e
  · have hne : b ≠ a := fun z => by subst z; rw [hm] at e; cases e
    obtain ⟨h1, h2⟩ := M.cells b c e
    exact ⟨h1, h2.mono .refl fun u e' => by rw [upd_ne hne]; exact e'⟩
/-- an object that was not there before is written -/
theorem Ext.wr (E : Ext F m H F' m' H') {a : Addr} (ha : H a = none) (o : HO) : Ext F m H F' m' (upd H' a o) := by
  have hne : ∀ {b u}, H b = some u → b ≠ a := fun e z => by subst z; rw [ha] at e; cases e
  exact ⟨E.le, E.fn, fun b u e1 e2 e3 => by rw [upd_ne (hne e1)]; exact E.hh b u e1 e2 e3, fun b u e => by rw [upd_ne (hne e)]; exact E.st b u e, E.nw, E.ce⟩
theorem Ext.none (E : Ext F m H F' m' H') {a : Addr} (ha : H' a = Option.none) : H a = Option.none := by
  cases q : H a with
  | none => rfl
  | some o =>
    obtain ⟨o', e⟩ := E.st a o q
    rw [ha] at e; cases e
end
/-- the object at D holds what was gathered -/
def Acc (K : PySem.W.Frag) (F : Hp) (m : Mu) (H : Hp) (D : Addr) (c : Pd.D) : Prop := F D = none ∧ m D = none ∧ Own K F H D c
theorem Acc.go {K : PySem.W.Frag} {F F' : Hp} {m m' : Mu} {H H' : Hp} {D : Addr} {c : Pd.D} (E : Ext F m H F' m' H') (h : Acc K F m H D c) : Acc K F' m' H' D c := by
  obtain ⟨h1, h2, h3⟩ := h
  obtain ⟨o, e, nt, _⟩ := h3.some
  exact ⟨E.fn D o h1 e nt, E.nocell e h2, h3.mono E.le fun o' e' => by rw [e] at e'; cases e'; exact E.hh D o e h2 (.inl h1)⟩
section
variable {X : Cx}
abbrev BlkX (X : Cx) (scope : Scope) (P : Cx → Prop) : Prop := ∀ (s : Shared) (H : Hp) (C : Addr) (cl : List (Str × Addr)) (fp : List Addr), P (X.blk s H scope (compEnvC scope cl C X.env) fp)
/-- the tests of a clause -/
theorem ptsd_nil {X : Cx} : PTs X [] (tT X.K fun r m Q => Q true m) := ⟨fun pins s σ H Q I ⟨B, F, r, m, Qd, S, w, k⟩ => pts_nil.run pins s σ H Q I (k true H ⟨F, m, .refl, S.mem, w⟩)⟩
theorem ptsd_one {X : Cx} {c : Expr} {t : FT} (h : PT X c (tT X.K t)) : PTs X [c] (tT X.K t) := pts_one h
/-- one turn: store, test -/
theorem turn_ok {K : PySem.W.Frag} {B : Bs} {g : Tg} {vs : List Nat} {t : FT} {d : D} {x : V} {F : Hp} {r : Ro} {m : Mu} {σ : L2.St} {H : Hp} {Qf : L2.St → Bool → Hp → Prop} {Q : Ro → Bool → Mu → Prop} (hg : tgIn g vs)
    (S : Sb K B F r m σ H) (R : Rep K F d x) (w : tgR g d (wipeR r vs) fun r2 => t r2 m fun b m1 => Q r2 b m1)
    (k : ∀ r2 σ2 b F' m' H', Sb K B F' r2 m' σ2 H' → Ext F m H F' m' H' → Mem K F' m' H' → Q r2 b m' → Qf σ2 b H') :
    tTg K g x (L2.wipe σ vs) H fun σ2 H2 => L2.wipe σ2 vs = L2.wipe σ vs ∧ tT K t σ2 H2 fun b H3 => Qf σ2 b H3 :=
  ⟨B, F, _, m, d, _, S.wipe vs, R, w, fun r2 σ2 S2 w2 _ hw => ⟨by rw [hw vs hg, wipe_wipe], B, F, r2, m, _, S2, w2, fun b H' ⟨F', m', E, M, q⟩ => k r2 σ2 b F' m' H' (S2.go E M) E M q⟩⟩
theorem comp_ok {K : PySem.W.Frag} {g : Tg} {vs : List Nat} {it : FL} {t : FT} {e : FD} {σ : L2.St} {H : Hp} {Qv : VK} (hg : tgIn g vs)
    (h : tX K (fun r m Q => it r m fun ds m1 => compL g vs t e r ds [] m1 fun acc m2 => Q (.o (.lst acc)) m2) σ H Qv) : tLc (tI K it) (tTg K g) (tT K t) (tD K e) vs σ H Qv := by
  obtain ⟨B, F, r, m, Q, S, w, k⟩ := h
  refine ⟨B, F, r, m, _, S, w, fun J H1 ⟨F1, m1, ds, E1, M1, W1, w1⟩ => fun D hD => ?_⟩
  have S1 := S.go E1 M1
  refine ⟨fun i n H2 => n = ds.length - i ∧ i ≤ ds.length ∧ ∃ F2 m2 acc, Ext F1 m1 H1 F2 m2 H2 ∧ Mem K F2 m2 H2 ∧ Acc K F2 m2 H2 D (.lst acc) ∧ compL g vs t e r (ds.drop i) acc m2 fun acc m2 => Q (.o (.lst acc)) m2,
    ⟨ds.length, by simp, Nat.zero_le _, F1, m1, [], .newH hD _, M1.newH hD _, ⟨M1.noF hD, M1.noM hD, own_lst .nil⟩, by simpa using w1⟩, ?_⟩
  rintro i n H2 ⟨rfl, hi, F2, m2, acc, E2, M2, A2, w2⟩
  by_cases hlt : i < ds.length
  · have ed : ds.drop i = ds[i] :: ds.drop (i + 1) := List.drop_eq_getElem_cons hlt
    rw [ed] at w2
    refine .inr ⟨W1.go F2 m2 H2 i M2 E2.le hlt, fun H' => ∃ n', n' < ds.length - i ∧ (n' = ds.length - (i + 1) ∧ i + 1 ≤ ds.length ∧ ∃ F2 m2 acc, Ext F1 m1 H1 F2 m2 H' ∧ Mem K F2 m2 H' ∧ Acc K F2 m2 H' D (.lst acc) ∧ compL g vs t e r (ds.drop (i + 1)) acc m2 fun acc m2 => Q (.o (.lst acc)) m2),
      fun H' z => z, fun x H' y => ?_⟩
    obtain ⟨F3, E3, M3, R3⟩ := W1.yld F2 m2 H2 i x H' ds[i] M2 E2.le (List.getElem?_eq_getElem hlt) y
    have E23 := E2.trans E3 M2
    have S3 := S1.go E23 M3
    refine turn_ok (Qf := fun σ2 b H3 => if b = true then tD K e σ2 H3 fun y H4 => ∃ acc, H4 D = some (.lst acc) ∧ acc.length < sizeLine ∧ _ else _) hg S3 R3 w2 fun r2 σ2 b F4 m4 H4 S4 E4 M4 w4 => ?_
    have E24 := E23.trans E4 M3
    have A4 := (A2.go E3).go E4
    cases b with
    | false => exact ⟨_, by omega, rfl, hlt, F4, m4, acc, E24, M4, A4, w4⟩
    | true =>
      rw [if_pos rfl] at w4
      show if true = true then _ else _
      rw [if_pos rfl]
      refine ⟨B, F4, r2, m4, _, S4, w4, fun y H5 ⟨F5, m5, d, E5, M5, R5, hz, w5⟩ => ?_⟩
      obtain ⟨a1, a2, vs5, a3, a4⟩ := A4.go E5
      refine ⟨vs5, a3, by rw [a4.length]; exact hz, _, by omega, rfl, hlt, F5, m5, acc ++ [d], (E24.trans E5 M4).wr hD _, M5.wr a1 a2 _, ⟨a1, a2, own_lst (a4.append (.cons R5 .nil))⟩, w5⟩
  · have ei : i = ds.length := by omega
    subst ei
    rw [List.drop_length] at w2
    refine .inl ⟨W1.stop F2 m2 H2 _ M2 E2.le (Nat.le_refl _), k _ _ ⟨F2, m2, .o (.lst acc), E1.trans E2 M1, M2, ⟨D, rfl, A2.1, A2.2.1, E1.none hD, A2.2.2⟩, w2⟩⟩
/-- [elt for target in iter if ..] -/
def compX (g : Tg) (vs : List Nat) (it : FL) (t : FT) (e : FD) : FX := fun r m Q => it r m fun ds m1 => compL g vs t e r ds [] m1 fun acc m2 => Q (.o (.lst acc)) m2
theorem px_comp {elt tg iter : Expr} {ifs : List Expr} {scope : Scope} {own : List (Str × Nat)} {pos : Pos} {g : Tg} {it : FL} {t : FT} {e : FX} (hc : X.calm = true) (hN : X.N.Nodup) (hi : PId X tg iter it) (ok : BlkOk X.N X.env.scope scope own) (hin : tgIn g (own.map (·.2)))
    (hg : BlkX X scope fun Y => PG Y tg (tTg X.K g)) (ht : BlkX X scope fun Y => PTs Y ifs (tT X.K t)) (he : BlkX X scope fun Y => PE Y elt (tX X.K e)) (hs : ∀ x, foldedSetIterable iter X.env x = pure x) :
    PX X (.ListComp elt [⟨tg, iter, ifs, 0⟩] scope pos) (compX g (own.map (·.2)) it t (toD e)) :=
  PEi (pe_lc hc hN hi ok hg ht (fun s H C cl fp => px_d (he s H C cl fp)) hs) fun σ H Qv h => comp_ok hin h
end
end Pd
/-! Pd: statements. -/
namespace Pd
open PySem PySem.Spec PyProof.Rows L2
/-! ### slots and cells are written -/
section
variable {K : PySem.W.Frag} {B : Bs} {F F' : Hp} {r : Ro} {m m' : Mu} {σ : L2.St} {H H' : Hp}
theorem get_set {α : Type} {l : List α} {i j : Nat} {x y : α} (h : (l.set i x)[j]? = some y) : (i = j ∧ j < l.length ∧ y = x) ∨ (i ≠ j ∧ l[j]? = some y) := by
  by_cases hj : i = j
  · subst hj
    have hl : i < l.length := by
      have := (List.getElem?_eq_some_iff.mp h).1
      rwa [List.length_set] at this
    rw [List.getElem?_set_self hl] at h
    cases h
    exact .inl ⟨rfl, hl, rfl⟩
  · rw [List.getElem?_set_ne hj] at h
    exact .inr ⟨hj, h⟩
/-- an own object comes into a slot -/
theorem Sb.setOw (S : Sb K B F r m σ H) (i : Nat) {c : D} {a : Addr} (hF : F a = none) (hm : m a = none) (hB : B.H a = none) (ho : Own K F H a c) (off : Off r σ a) : Sb K B F (r.set i (.ow c)) m (σ.set i (some (.ref a))) H := by
  refine ⟨S.mem, S.ext, by rw [List.length_set, List.length_set]; exact S.len, fun j sv e => ?_, fun j k c1 c2 b hjk e1 e2 e3 e4 => ?_⟩
  · rcases get_set e with ⟨rfl, hl, rfl⟩ | ⟨hj, e⟩
    · exact ⟨_, by rw [List.getElem?_set_self (by rw [S.len]; exact hl)], a, rfl, hF, hm, hB, ho⟩
    · obtain ⟨o, eo, q⟩ := S.sl j sv e
      exact ⟨o, by rw [List.getElem?_set_ne hj]; exact eo, q⟩
  · rcases get_set e1 with ⟨rfl, h1, z1⟩ | ⟨n1, e1⟩
    · rcases get_set e2 with ⟨z, _, _⟩ | ⟨n2, e2⟩
      · exact hjk z
      · rw [List.getElem?_set_self (by rw [S.len]; exact h1)] at e3
        rw [List.getElem?_set_ne n2] at e4
        cases e3
        exact off k c2 e2 e4
    · rw [List.getElem?_set_ne n1] at e3
      rcases get_set e2 with ⟨rfl, h2, z2⟩ | ⟨n2, e2⟩
      · rw [List.getElem?_set_self (by rw [S.len]; exact h2)] at e4
        cases e4
        exact off j c1 e1 e3
      · rw [List.getElem?_set_ne n2] at e4
        exact S.ap j k c1 c2 b hjk e1 e2 e3 e4
/-- the slot's own object is written -/
theorem Sb.wrOw (S : Sb K B F r m σ H) {i : Nat} {c c' : D} {a : Addr} {o' : HO} (e : r[i]? = some (.ow c)) (ea : σ[i]? = some (some (V.ref a))) (nt : NoTup o') (ho : Own K F (upd H a o') a c') : Sb K B F (r.set i (.ow c')) m σ (upd H a o') := by
  obtain ⟨o, eo, b, eb, hF, hm, hB, hc⟩ := S.sl i _ e
  rw [ea] at eo
  cases eo
  cases eb
  obtain ⟨u, eu, _⟩ := hc.some
  have le : i < r.length := (List.getElem?_eq_some_iff.mp e).1
  refine ⟨S.mem.wr hF hm o', S.ext.wr hB o', by rw [List.length_set]; exact S.len, fun j sv ej => ?_, fun j k c1 c2 b hjk e1 e2 e3 e4 => ?_⟩
  · rcases get_set ej with ⟨rfl, hl, rfl⟩ | ⟨hj, ej⟩
    · exact ⟨_, ea, a, rfl, hF, hm, hB, ho⟩
    · obtain ⟨ov, eo, q⟩ := S.sl j sv ej
      refine ⟨ov, eo, ?_⟩
      cases sv with
      | un => trivial
      | fz d => exact q
      | ow c2 =>
        obtain ⟨b, eb, h1, h2, h3, h4⟩ := q
        subst eb
        have hne : b ≠ a := fun z => by
          subst z
          exact S.ap i j c c2 b hj e ej ea eo
        exact ⟨b, rfl, h1, h2, h3, h4.mono .refl fun u e' => by rw [upd_ne hne]; exact e'⟩
  · have q1 : ∃ c, r[j]? = some (.ow c) := by
      rcases get_set e1 with ⟨rfl, _, _⟩ | ⟨_, e1⟩
      · exact ⟨_, e⟩
      · exact ⟨_, e1⟩
    have q2 : ∃ c, r[k]? = some (.ow c) := by
      rcases get_set e2 with ⟨rfl, _, _⟩ | ⟨_, e2⟩
      · exact ⟨_, e⟩
      · exact ⟨_, e2⟩
    obtain ⟨d1, q1⟩ := q1
    obtain ⟨d2, q2⟩ := q2
    exact S.ap j k d1 d2 b hjk q1 q2 e3 e4
/-- a cell is written -/
theorem Sb.wrCell (S : Sb K B F r m σ H) {c c' : D} {a : Addr} {o' : HO} (e : m a = some c) (ho : Own K F (upd H a o') a c') : Sb K B F r (mset m a (some c')) σ (upd H a o') := by
  obtain ⟨hF, hc⟩ := S.mem.cells a c e
  obtain ⟨u, eu, _⟩ := hc.some
  refine ⟨⟨fun b u eb => ?_, fun b d eb => ?_⟩, ⟨S.ext.le, S.ext.fn, fun b u e1 e2 e3 => ?_, fun b u eb => ?_, fun b d eb => ?_, fun b d eb => ?_⟩, S.len, fun i sv ei => ?_, S.ap⟩
  · have hne : b ≠ a := fun z => by subst z; rw [hF] at eb; cases eb
    rw [upd_ne hne]; exact S.mem.same b u eb
  · by_cases hne : b = a
    · subst hne
      rw [mset_same] at eb
      cases eb
      exact ⟨hF, ho⟩
    · rw [mset_ne hne] at eb
      obtain ⟨h1, h2⟩ := S.mem.cells b d eb
      exact ⟨h1, h2.mono .refl fun u e' => by rw [upd_ne hne]; exact e'⟩
  · have hne : b ≠ a := fun z => by
      subst z
      rcases S.ext.nw b c e with ⟨c2, z⟩ | z
      · rw [e2] at z; cases z
      · rw [e1] at z; cases z
    rw [upd_ne hne]; exact S.ext.hh b u e1 e2 e3
  · by_cases hne : b = a
    · subst hne; exact ⟨_, upd_same⟩
    · rw [upd_ne hne]; exact S.ext.st b u eb
  · by_cases hne : b = a
    · subst hne; exact S.ext.nw b c e
    · rw [mset_ne hne] at eb; exact S.ext.nw b d eb
  · by_cases hne : b = a
    · subst hne; exact ⟨_, mset_same⟩
    · rw [mset_ne hne]; exact S.ext.ce b d eb
  · obtain ⟨ov, eo, q⟩ := S.sl i sv ei
    refine ⟨ov, eo, ?_⟩
    cases sv with
    | un => trivial
    | fz d => exact q
    | ow c2 =>
      obtain ⟨b, eb, h1, h2, h3, h4⟩ := q
      have hne : b ≠ a := fun z => by
        subst z
        rw [h2] at e; cases e
      exact ⟨b, eb, h1, by rw [mset_ne hne]; exact h2, h3, h4.mono .refl fun u e' => by rw [upd_ne hne]; exact e'⟩
/-- an object becomes a cell -/
theorem Sb.newCell (S : Sb K B F r m σ H) {c : D} {a : Addr} (hF : F a = none) (hB : B.H a = none) (ho : Own K F H a c) (off : Off r σ a) : Sb K B F r (mset m a (some c)) σ H := by
  refine ⟨⟨S.mem.same, fun b d eb => ?_⟩, ⟨S.ext.le, S.ext.fn, S.ext.hh, S.ext.st, fun b d eb => ?_, fun b d eb => ?_⟩, S.len, fun i sv ei => ?_, S.ap⟩
  · by_cases hne : b = a
    · subst hne
      rw [mset_same] at eb
      cases eb
      exact ⟨hF, ho⟩
    · rw [mset_ne hne] at eb
      exact S.mem.cells b d eb
  · by_cases hne : b = a
    · subst hne; exact .inr hB
    · rw [mset_ne hne] at eb; exact S.ext.nw b d eb
  · by_cases hne : b = a
    · subst hne; exact ⟨_, mset_same⟩
    · rw [mset_ne hne]; exact S.ext.ce b d eb
  · obtain ⟨ov, eo, q⟩ := S.sl i sv ei
    refine ⟨ov, eo, ?_⟩
    cases sv with
    | un => trivial
    | fz d => exact q
    | ow c2 =>
      obtain ⟨b, eb, h1, h2, h3, h4⟩ := q
      have hne : b ≠ a := fun z => by
        subst z
        rw [eb] at eo
        exact off i c2 ei eo
      exact ⟨b, eb, h1, by rw [mset_ne hne]; exact h2, h3, h4⟩
/-- a cell is no cell any more -/
theorem Sb.kill (S : Sb K B F r m σ H) {a : Addr} (hb : B.m a = none) : Sb K B F r (mset m a none) σ H := by
  refine ⟨⟨S.mem.same, fun b d eb => ?_⟩, ⟨S.ext.le, S.ext.fn, S.ext.hh, S.ext.st, fun b d eb => ?_, fun b d eb => ?_⟩, S.len, fun i sv ei => ?_, S.ap⟩
  · by_cases hne : b = a
    · subst hne
      rw [mset_same] at eb
      cases eb
    · rw [mset_ne hne] at eb
      exact S.mem.cells b d eb
  · by_cases hne : b = a
    · subst hne
      rw [mset_same] at eb
      cases eb
    · rw [mset_ne hne] at eb; exact S.ext.nw b d eb
  · have hne : b ≠ a := fun z => by subst z; rw [hb] at eb; cases eb
    rw [mset_ne hne]; exact S.ext.ce b d eb
  · obtain ⟨ov, eo, q⟩ := S.sl i sv ei
    refine ⟨ov, eo, ?_⟩
    cases sv with
    | un => trivial
    | fz d => exact q
    | ow c2 =>
      obtain ⟨b, eb, h1, h2, h3, h4⟩ := q
      refine ⟨b, eb, h1, ?_, h3, h4⟩
      by_cases hne : b = a
      · subst hne; exact mset_same
      · rw [mset_ne hne]; exact h2
/-- a slot's own object is frozen -/
theorem Sb.frz (S : Sb K B F r m σ H) {i : Nat} {c : D} (e : r[i]? = some (.ow c)) : ∃ F', Le F F' ∧ Sb K B F' (r.set i (.fz c)) m σ H := by
  obtain ⟨o, eo, a, eb, hF, hm, hB, hc⟩ := S.sl i _ e
  subst eb
  obtain ⟨u, eu, nt, _⟩ := hc.some
  have le : Le F (upd F a u) := .of fun b w q => by rw [upd_ne (ne_of_none q hF)]; exact q
  refine ⟨upd F a u, le, S.mem.frz hF hm eu, ⟨S.ext.le.trans le, fun b w e1 e2 n => ?_, S.ext.hh, S.ext.st, S.ext.nw, S.ext.ce⟩, by rw [List.length_set]; exact S.len, fun j sv ej => ?_, fun j k c1 c2 b hjk e1 e2 e3 e4 => ?_⟩
  · have hne : b ≠ a := fun z => by subst z; rw [hB] at e2; cases e2
    rw [upd_ne hne]; exact S.ext.fn b w e1 e2 n
  · rcases get_set ej with ⟨rfl, hl, rfl⟩ | ⟨hj, ej⟩
    · exact ⟨_, eo, _, rfl, hc.freeze hF eu⟩
    · obtain ⟨ov, eo2, q⟩ := S.sl j sv ej
      refine ⟨ov, eo2, ?_⟩
      cases sv with
      | un => trivial
      | fz d =>
        obtain ⟨v, ev, rp⟩ := q
        exact ⟨v, ev, rp.mono le⟩
      | ow c2 =>
        obtain ⟨b, eb, h1, h2, h3, h4⟩ := q
        subst eb
        have hne : b ≠ a := fun z => by
          subst z
          exact S.ap i j c c2 b hj e ej eo eo2
        exact ⟨b, rfl, by rw [upd_ne hne]; exact h1, h2, h3, h4.mono le fun u e' => e'⟩
  · rcases get_set e1 with ⟨_, _, z⟩ | ⟨_, e1⟩
    · cases z
    · rcases get_set e2 with ⟨_, _, z⟩ | ⟨_, e2⟩
      · cases z
      · exact S.ap j k c1 c2 b hjk e1 e2 e3 e4
/-- the thing behind a name, to be changed -/
theorem Sb.hdl (S : Sb K B F r m σ H) {i : Nat} {Q : Hd → Prop} (h : hdlR r i Q) : ∃ g a, Q g ∧ σ[i]? = some (some (V.ref a)) ∧ HdOk K F r σ g (.ref a) ∧ ∀ {c}, vw r m g = some c → Own K F H a c := by
  unfold hdlR at h
  split at h
  · next a e =>
    obtain ⟨o, eo, v, ev, rp⟩ := S.sl i _ e
    have rp' := rp
    rw [Rep] at rp'
    subst rp' ev
    exact ⟨_, a, h, eo, rp, fun e1 => (S.mem.cells a _ e1).2⟩
  · next c e =>
    obtain ⟨o, eo, a, ea, hF, hm, hB, ho⟩ := S.sl i _ e
    subst ea
    refine ⟨_, a, h, eo, ⟨eo, c, e⟩, fun {c'} e1 => ?_⟩
    have e3 : vw r m (.own i) = some c := by
      show (match r[i]? with | some (.ow c) => some c | _ => none) = some c
      rw [e]
    rw [e3] at e1
    cases e1
    exact ho
  · exact h.elim
/-- .. and its content is put -/
theorem Sb.put (S : Sb K B F r m σ H) {g : Hd} {a : Addr} {c c' : D} {Q : Ro → Mu → Prop} (h : HdOk K F r σ g (.ref a)) (e : vw r m g = some c) (w : putH r m g c' Q) {o' : HO} (nt : NoTup o') (ho : Own K F (upd H a o') a c') :
    ∃ r' m', Sb K B F r' m' σ (upd H a o') ∧ Q r' m' := by
  cases g with
  | own i =>
    obtain ⟨e1, c2, e2⟩ := h
    exact ⟨_, _, S.wrOw e2 e1 nt ho, w⟩
  | d x =>
    cases x with
    | cell b =>
      have hv : Rep K F (.cell b) (.ref a) := h
      rw [Rep] at hv
      cases hv
      exact ⟨_, _, S.wrCell e ho, w⟩
    | _ => exact w.elim
end
/-! ### readings -/
structure EnOk (K : PySem.W.Frag) (B : Bs) (F0 : Hp) (E : En) (D : Ends) : Prop where
  nx : ∀ F r m σ H, Le F0 F → Sb K B F r m σ H → E.nx r m → D.nx σ H
  bk : ∀ F r m σ H, Le F0 F → Sb K B F r m σ H → E.bk r m → D.bk σ H
  ct : ∀ F r m σ H, Le F0 F → Sb K B F r m σ H → E.ct r m → D.ct σ H
  rt : ∀ F m H rv v, Ext B.F B.m B.H F m H → Mem K F m H → RVr K F m B.H H rv v → E.rt rv m → D.rt v H
theorem EnOk.mono {K : PySem.W.Frag} {B : Bs} {F0 F1 : Hp} {E : En} {D : Ends} (ok : EnOk K B F0 E D) (le : Le F0 F1) : EnOk K B F1 E D :=
  ⟨fun F r m σ H l => ok.nx F r m σ H (le.trans l), fun F r m σ H l => ok.bk F r m σ H (le.trans l), fun F r m σ H l => ok.ct F r m σ H (le.trans l), ok.rt⟩
abbrev FS := En → Ro → Mu → Prop
def tS (K : PySem.W.Frag) (f : FS) : TS := fun D σ H => ∃ B F r m E, Sb K B F r m σ H ∧ E.m0 = B.m ∧ f E r m ∧ EnOk K B F E D
theorem PSi {X : Cx} {st : Stmt} {t t' : TS} (h : PS X st t) (q : ∀ D σ H, t' D σ H → t D σ H) : PS X st t' := ⟨fun pins s σ H D I z => h.run pins s σ H D I (q _ _ _ z)⟩
theorem PSsi {X : Cx} {st : List Stmt} {t t' : TS} (h : PSs X st t) (q : ∀ D σ H, t' D σ H → t D σ H) : PSs X st t' := ⟨fun pins s σ H D I z => h.run pins s σ H D I (q _ _ _ z)⟩
abbrev PSd (X : Cx) (st : Stmt) (f : FS) : Prop := PS X st (tS X.K f)
abbrev PSsd (X : Cx) (st : List Stmt) (f : FS) : Prop := PSs X st (tS X.K f)
section
variable {X : Cx} {pos : Pos}
def nxS : FS := fun E r m => E.nx r m
def seqS (f g : FS) : FS := fun E r m => f { E with nx := g E } r m
theorem pssd_nil : PSsd X [] nxS := PSsi pss_nil fun D σ H ⟨B, F, r, m, E, S, e0, w, ok⟩ => ok.nx F r m σ H .refl S w
theorem pssd_cons {st : Stmt} {rest : List Stmt} {f g : FS} (h : PSd X st f) (t : PSsd X rest g) : PSsd X (st :: rest) (seqS f g) :=
  PSsi (pss_cons h t) fun D σ H ⟨B, F, r, m, E, S, e0, w, ok⟩ => ⟨B, F, r, m, { E with nx := g E }, S, e0, w, fun F' r' m' σ' H' l S' w' => ⟨B, F', r', m', E, S', e0, w', ok.mono l⟩, ok.bk, ok.ct, ok.rt⟩
theorem psd_pass : PSd X (.Pass pos) nxS := PSi ps_pass fun D σ H ⟨B, F, r, m, E, S, e0, w, ok⟩ => ok.nx F r m σ H .refl S w
theorem psd_doc {x j pos pos'} : PSd X (.Expr (.Constant (.str x) j pos) pos') nxS := PSi ps_doc fun D σ H ⟨B, F, r, m, E, S, e0, w, ok⟩ => ok.nx F r m σ H .refl S w
theorem psd_brk : PSd X (.Break pos) (fun E r m => E.bk r m) := PSi ps_break fun D σ H ⟨B, F, r, m, E, S, e0, w, ok⟩ => ok.bk F r m σ H .refl S w
theorem psd_cont : PSd X (.Continue pos) (fun E r m => E.ct r m) := PSi ps_continue fun D σ H ⟨B, F, r, m, E, S, e0, w, ok⟩ => ok.ct F r m σ H .refl S w
theorem psd_never {st : Stmt} : PSd X st (fun E r m => False) := PSi ps_never fun D σ H ⟨B, F, r, m, E, S, e0, w, ok⟩ => w.elim
theorem pssd_never {st : List Stmt} : PSsd X st (fun E r m => False) := PSsi pss_never fun D σ H ⟨B, F, r, m, E, S, e0, w, ok⟩ => w.elim
def retS (f : FX) : FS := fun E r m => f r m E.rt
theorem psd_ret {e : Expr} {f : FX} (h : PX X e f) : PSd X (.Return (some e) pos) (retS f) :=
  PSi (ps_ret h) fun D σ H ⟨B, F, r, m, E, S, e0, w, ok⟩ => ⟨B, F, r, m, E.rt, S, w, fun v H' ⟨F', m', rv, E1, M, R, q⟩ => ok.rt F' m' H' rv v (S.ext.trans E1 S.mem) M (rv_back S.ext R) q⟩
theorem psd_retN : PSd X (.Return none pos) (fun E r m => E.rt (.d .non) m) :=
  PSi ps_retN fun D σ H ⟨B, F, r, m, E, S, e0, w, ok⟩ => ok.rt F m H (.d .non) .non S.ext S.mem (rep_non : Rep X.K F .non .non) w
def retOS (i : Nat) : FS := fun E r m => match r[i]? with
    | some (.ow c) => E.rt (.o c) m
    | _ => False
theorem psd_retO {e : Expr} {i : Nat} (h : PE X e (tVar i)) : PSd X (.Return (some e) pos) (retOS i) :=
  PSi (ps_ret h) fun D σ H ⟨B, F, r, m, E, S, e0, w, ok⟩ => by
    unfold retOS at w
    split at w
    · next c e =>
      obtain ⟨o, eo, a, ea, hF, hm, hB, ho⟩ := S.sl i _ e
      subst ea
      exact ⟨.ref a, eo, ok.rt F m H (.o c) (.ref a) S.ext S.mem ⟨a, rfl, hF, hm, hB, ho⟩ w⟩
    · exact w.elim
def exprS (f : FX) : FS := fun E r m => f r m fun _ m1 => E.nx r m1
theorem psd_expr {e : Expr} {f : FX} (h : PX X e f) (hs : swapsWith e none pos.line X.env = pure false) : PSd X (.Expr e pos) (exprS f) :=
  PSi (ps_expr h hs) fun D σ H ⟨B, F, r, m, E, S, e0, w, ok⟩ => ⟨B, F, r, m, _, S, w, fun v H' ⟨F', m', rv, E1, M, R, q⟩ => ok.nx F' r m' σ H' E1.le (S.go E1 M) q⟩
def ifS (t : FT) (a b : FS) : FS := fun E r m => t r m fun k m1 => if k = true then a E r m1 else b E r m1
theorem psd_if {c : Expr} {p q : List Stmt} {t : FT} {a b : FS} (hc : PT X c (tT X.K t)) (ha : PSsd X p a) (hb : PSsd X q b) : PSd X (.If c p q pos) (ifS t a b) :=
  PSi (ps_if hc ha hb) fun D σ H ⟨B, F, r, m, E, S, e0, w, ok⟩ => ⟨B, F, r, m, _, S, w, fun k H' ⟨F', m', E1, M, q⟩ => by
    cases k with
    | true => exact ⟨B, F', r, m', E, S.go E1 M, e0, q, ok.mono E1.le⟩
    | false => exact ⟨B, F', r, m', E, S.go E1 M, e0, q, ok.mono E1.le⟩⟩
/-! ### stores -/
def setS (g : Tg) (f : FX) : FS := fun E r m => f r m fun v m1 => tgR g v.toD r fun r1 => E.nx r1 m1
def setOS (i : Nat) (f : FX) : FS := fun E r m => f r m fun v m1 => match v with
    | .o c => E.nx (r.set i (.ow c)) m1
    | _ => False
def setCS (i : Nat) (f : FX) : FS := fun E r m => f r m fun v m1 => match v with
    | .o c => ∀ p, m1 p = none → E.nx (r.set i (.fz (.cell p))) (mset m1 p (some c))
    | _ => False
theorem set_ok {K : PySem.W.Frag} {te : TE} {g : TG} {f : FX} {tg : Tg} (ht : ∀ σ H Qv, tX K f σ H Qv → te σ H Qv) (hg : ∀ v σ H Q, tTg K tg v σ H Q → g v σ H Q) {D : Ends} {σ : L2.St} {H : Hp} (h : tS K (setS tg f) D σ H) : tAsg te g D σ H := by
  obtain ⟨B, F, r, m, E, S, e0, w, ok⟩ := h
  refine ht _ _ _ ⟨B, F, r, m, _, S, w, fun v H' p => ?_⟩
  obtain ⟨F', m', d, E1, M, R, q⟩ := p.frz (Q' := fun d m' => tgR tg d r fun r1 => E.nx r1 m') fun _ _ q => q
  exact hg _ _ _ _ ⟨B, F', r, m', d, _, S.go E1 M, R, q, fun r' σ' S' w' _ _ => ok.nx F' r' m' σ' H' E1.le S' w'⟩
theorem tg_name {K : PySem.W.Frag} {i : Nat} {v : V} {σ : L2.St} {H : Hp} {Q : L2.St → Hp → Prop} (h : tTg K (.name i) v σ H Q) : gName i v σ H Q := by
  obtain ⟨B, F, r, m, d, Qd, S, R, w, k⟩ := h
  exact k _ _ (S.setFz i R) w (fun _ o => o.set) fun vs hi => wipe_set _ hi
theorem setO_ok {K : PySem.W.Frag} {te : TE} {f : FX} {i : Nat} (ht : ∀ σ H Qv, tX K f σ H Qv → te σ H Qv) {D : Ends} {σ : L2.St} {H : Hp} (h : tS K (setOS i f) D σ H) : tAsg te (gName i) D σ H := by
  obtain ⟨B, F, r, m, E, S, e0, w, ok⟩ := h
  refine ht _ _ _ ⟨B, F, r, m, _, S, w, fun v H' ⟨F', m', rv, E1, M, R, q⟩ => ?_⟩
  cases rv with
  | d x => exact q.elim
  | o c =>
    obtain ⟨a, rfl, hF, hm, h0, ho⟩ := R
    exact ok.nx F' _ m' _ H' E1.le ((S.go E1 M).setOw i hF hm (S.fresh h0) ho (S.off h0)) q
theorem setC_ok {K : PySem.W.Frag} {te : TE} {f : FX} {i : Nat} (ht : ∀ σ H Qv, tX K f σ H Qv → te σ H Qv) {D : Ends} {σ : L2.St} {H : Hp} (h : tS K (setCS i f) D σ H) : tAsg te (gName i) D σ H := by
  obtain ⟨B, F, r, m, E, S, e0, w, ok⟩ := h
  refine ht _ _ _ ⟨B, F, r, m, _, S, w, fun v H' ⟨F', m', rv, E1, M, R, q⟩ => ?_⟩
  cases rv with
  | d x => exact q.elim
  | o c =>
    obtain ⟨a, rfl, hF, hm, h0, ho⟩ := R
    exact ok.nx F' _ _ _ H' E1.le (((S.go E1 M).newCell hF (S.fresh h0) ho (S.off h0)).setFz i (d := .cell a) (v := .ref a) (by rw [Rep])) (q a hm)
def parS (i j : Nat) (t : FL) : FS := fun E r m => t r m fun ds m1 => match ds with
    | [x, y] => E.nx ((r.set i (.fz x)).set j (.fz y)) m1
    | _ => False
theorem psd_par {i j : Nat} {x y : Str} {a b : Expr} {t : FL} {px py pt : Pos} {kt k2 pt2} (hc : X.calm = true) (hN : X.N.Nodup) (hi : X.N[i]? = some x) (hj : X.N[j]? = some y) (hij : i ≠ j)
    (hx : X.env.scope.names.lookup x = some .local) (hy : X.env.scope.names.lookup y = some .local) (ha : PA X [a, b] (tL X.K t))
    (hw : swappedStores [.Tuple [.Name x px, .Name y py] kt pt] (.Tuple [a, b] k2 pt2) X.env = pure (some [x, y]))
    (hs : swapsWithSole [.Tuple [.Name x px, .Name y py] kt pt] (.Tuple [a, b] k2 pt2) pos.line X.env = pure false) :
    PSd X (.Assign [.Tuple [.Name x px, .Name y py] kt pt] (.Tuple [a, b] k2 pt2) pos) (parS i j t) :=
  PSi (ps_par hc hN hi hj hij hx hy ha hw hs) fun D σ H ⟨B, F, r, m, E, S, e0, w, ok⟩ => ⟨B, F, r, m, _, S, w, fun vs H1 ⟨F1, m1, ds, E1, M1, R1, q⟩ => by
    match ds, R1, q with
    | [d1, d2], R1, q =>
      obtain ⟨v, vr, e1, r1, R2⟩ := R1.of_cons
      obtain ⟨u, ur, e2, r2, R3⟩ := R2.of_cons
      have e3 := R3.of_nil
      subst e3 e2 e1
      exact ⟨v, u, rfl, ok.nx F1 _ m1 _ H1 E1.le (((S.go E1 M1).setFz i r1).setFz j r2) q⟩⟩
def par3S (i j l : Nat) (t : FL) : FS := fun E r m => t r m fun ds m1 => match ds with
    | [x, y, z] => E.nx (((r.set i (.fz x)).set j (.fz y)).set l (.fz z)) m1
    | _ => False
theorem psd_par3 {i j l : Nat} {x y z : Str} {a b c : Expr} {t : FL} {px py pz pt : Pos} {kt k2 pt2} (hc : X.calm = true) (hN : X.N.Nodup) (hi : X.N[i]? = some x) (hj : X.N[j]? = some y) (hl : X.N[l]? = some z) (hij : i ≠ j) (hil : i ≠ l) (hjl : j ≠ l)
    (hx : X.env.scope.names.lookup x = some .local) (hy : X.env.scope.names.lookup y = some .local) (hz : X.env.scope.names.lookup z = some .local) (ha : PA X [a, b, c] (tL X.K t))
    (hw : swappedStores [.Tuple [.Name x px, .Name y py, .Name z pz] kt pt] (.Tuple [a, b, c] k2 pt2) X.env = pure (some [x, y, z]))
    (hs : swapsWithSole [.Tuple [.Name x px, .Name y py, .Name z pz] kt pt] (.Tuple [a, b, c] k2 pt2) pos.line X.env = pure false) :
    PSd X (.Assign [.Tuple [.Name x px, .Name y py, .Name z pz] kt pt] (.Tuple [a, b, c] k2 pt2) pos) (par3S i j l t) :=
  PSi (ps_par3 hc hN hi hj hl hij hil hjl hx hy hz ha hw hs) fun D σ H ⟨B, F, r, m, E, S, e0, w, ok⟩ => ⟨B, F, r, m, _, S, w, fun vs H1 ⟨F1, m1, ds, E1, M1, R1, q⟩ => by
    have hd : ∃ d1 d2 d3, ds = [d1, d2, d3] := by
      rcases ds with _ | ⟨d1, _ | ⟨d2, _ | ⟨d3, _ | ⟨d4, ds⟩⟩⟩⟩
      · exact q.elim
      · exact q.elim
      · exact q.elim
      · exact ⟨_, _, _, rfl⟩
      · exact q.elim
    obtain ⟨d1, d2, d3, rfl⟩ := hd
    obtain ⟨v, vr, e1, r1, R2⟩ := R1.of_cons
    obtain ⟨u, ur, e2, r2, R3⟩ := R2.of_cons
    obtain ⟨y, wr, e4, r3, R4⟩ := R3.of_cons
    have e3 := R4.of_nil
    subst e3 e4 e2 e1
    exact ⟨v, u, y, rfl, ok.nx F1 _ m1 _ H1 E1.le ((((S.go E1 M1).setFz i r1).setFz j r2).setFz l r3) q⟩⟩
/-! ### loops -/
theorem psd_for {tg iter : Expr} {body : List Stmt} {it : FL} {g : Tg} {b : FS} (hp : PassesOwn (model X.prog X.w) X.A X.env X.xe) (hc : X.calm = true) (hi : PId X tg iter it) (hg : PG X tg (tTg X.K g)) (hb : PSsd X body b)
    (hs : ∀ x, foldedSetIterable iter X.env x = pure x) : PSd X (.For tg iter body [] pos) (fun E r m => it r m fun ds m1 => forL b g ds E r m1) :=
  PSi (ps_for hp hc hi hg hb hs) fun D σ H ⟨B, F, r, m, E, S, e0, w, ok⟩ => ⟨B, F, r, m, _, S, w, fun J H1 ⟨F1, m1, ds, E1, M1, W1, w1⟩ => by
    refine ⟨fun i n σ H => n = ds.length - i ∧ i ≤ ds.length ∧ ∃ F2 r2 m2, Sb X.K B F2 r2 m2 σ H ∧ Le F1 F2 ∧ forL b g (ds.drop i) E r2 m2, ⟨ds.length, by simp, Nat.zero_le _, F1, r, m1, S.go E1 M1, .refl, by simpa using w1⟩, ?_⟩
    rintro i n σ2 H2 ⟨rfl, hi, F2, r2, m2, S2, l2, w2⟩
    by_cases hlt : i < ds.length
    · have ed : ds.drop i = ds[i] :: ds.drop (i + 1) := List.drop_eq_getElem_cons hlt
      rw [ed] at w2
      refine .inr ⟨W1.go F2 m2 H2 i S2.mem l2 hlt, fun σ H => ds.length - (i + 1) = ds.length - (i + 1) ∧ i + 1 ≤ ds.length ∧ ∃ F2 r2 m2, Sb X.K B F2 r2 m2 σ H ∧ Le F1 F2 ∧ forL b g (ds.drop (i + 1)) E r2 m2, fun σ' H' z => ⟨ds.length - (i + 1), by omega, z⟩, fun x H' y => ?_⟩
      obtain ⟨F3, E3, M3, R3⟩ := W1.yld F2 m2 H2 i x H' ds[i] S2.mem l2 (List.getElem?_eq_getElem hlt) y
      have l3 := l2.trans E3.le
      refine ⟨B, F3, r2, m2, ds[i], _, S2.go E3 M3, R3, w2, fun r4 σ4 S4 w4 _ _ => ⟨B, F3, r4, m2, { E with nx := forL b g (ds.drop (i + 1)) E, ct := forL b g (ds.drop (i + 1)) E, bk := E.nx }, S4, e0, w4, ?_⟩⟩
      exact ⟨fun F r m σ H l S w => ⟨rfl, hlt, F, r, m, S, l3.trans l, w⟩, fun F r m σ H l S w => ok.nx F r m σ H ((E1.le.trans l3).trans l) S w, fun F r m σ H l S w => ⟨rfl, hlt, F, r, m, S, l3.trans l, w⟩, ok.rt⟩
    · have ei : i = ds.length := by omega
      subst ei
      rw [List.drop_length] at w2
      exact .inl ⟨W1.stop F2 m2 H2 _ S2.mem l2 (Nat.le_refl _), ok.nx F2 r2 m2 σ2 H2 (E1.le.trans l2) S2 w2⟩⟩
theorem psd_while {c : Expr} {body : List Stmt} {t : FT} {b : FS} (hp : PassesOwn (model X.prog X.w) X.A X.env X.xe) (hc : PT X c (tT X.K t)) (hb : PSsd X body b) : PSd X (.While c body [] pos) (fun E r m => ∃ n, whileN t b n E r m) :=
  PSi (ps_while hp hc hb) fun D σ H ⟨B, F, r, m, E, S, e0, ⟨n, w⟩, ok⟩ => by
    refine ⟨fun n σ H => ∃ F2 r2 m2, Sb X.K B F2 r2 m2 σ H ∧ Le F F2 ∧ whileN t b n E r2 m2, ⟨n, F, r, m, S, .refl, w⟩, ?_⟩
    rintro n σ2 H2 ⟨F2, r2, m2, S2, l2, w2⟩
    cases n with
    | zero => exact w2.elim
    | succ n =>
      refine ⟨B, F2, r2, m2, _, S2, w2, fun k H3 ⟨F3, m3, E3, M3, w3⟩ => ?_⟩
      have l3 := l2.trans E3.le
      cases k with
      | false => exact ok.nx F3 r2 m3 σ2 H3 l3 (S2.go E3 M3) w3
      | true =>
        refine ⟨fun σ H => ∃ F2 r2 m2, Sb X.K B F2 r2 m2 σ H ∧ Le F F2 ∧ whileN t b n E r2 m2, fun σ' H' z => ⟨n, Nat.lt_succ_self n, z⟩, B, F3, r2, m3, { E with nx := whileN t b n E, ct := whileN t b n E, bk := E.nx }, S2.go E3 M3, e0, w3, ?_⟩
        exact ⟨fun F r m σ H l S w => ⟨F, r, m, S, l3.trans l, w⟩, fun F r m σ H l S w => ok.nx F r m σ H (l3.trans l) S w, fun F r m σ H l S w => ⟨F, r, m, S, l3.trans l, w⟩, ok.rt⟩
/-! ### ghosts -/
def frzS (i : Nat) (f : FS) : FS := fun E r m => match r[i]? with
    | some (.ow c) => f E (r.set i (.fz c)) m
    | some (.fz d) => f E r m
    | _ => False
theorem pssd_frz {i : Nat} {sts : List Stmt} {f : FS} (h : PSsd X sts f) : PSsd X sts (frzS i f) :=
  PSsi h fun D σ H ⟨B, F, r, m, E, S, e0, w, ok⟩ => by
    unfold frzS at w
    split at w
    · next c e =>
      obtain ⟨F', le, S'⟩ := S.frz e
      exact ⟨B, F', _, m, E, S', e0, w, ok.mono le⟩
    · exact ⟨B, F, r, m, E, S, e0, w, ok⟩
    · exact w.elim
def killS (i : Nat) (f : FS) : FS := fun E r m => match r[i]? with
    | some (.fz (.cell a)) => E.m0 a = none ∧ f E (r.set i .un) (mset m a none)
    | _ => False
theorem pssd_kill {i : Nat} {sts : List Stmt} {f : FS} (h : PSsd X sts f) : PSsd X sts (killS i f) :=
  PSsi h fun D σ H ⟨B, F, r, m, E, S, e0, w, ok⟩ => by
    unfold killS at w
    split at w
    · next a e =>
      refine ⟨B, F, _, _, E, ?_, e0, w.2, ok⟩
      have z := (S.kill (a := a) (by rw [← e0]; exact w.1)).setUn i (σ[i]?.getD none)
      have es : σ.set i (σ[i]?.getD none) = σ := by
        apply List.ext_getElem?
        intro j
        by_cases hj : i = j
        · subst hj
          by_cases hl : i < σ.length
          · rw [List.getElem?_set_self hl, List.getElem?_eq_getElem hl]; rfl
          · rw [List.getElem?_eq_none (by rw [List.length_set]; omega), List.getElem?_eq_none (by omega)]
        · rw [List.getElem?_set_ne hj]
      rw [es] at z
      exact z
    · exact w.elim
end
end Pd
/-! Pd: comparisons as values and as tests; is; chains; calls; what changes an object. -/
namespace Pd
open PySem PySem.Spec PyProof.Rows L2
section
variable {X : Cx} {pos : Pos}
/-! ### by any reading -/
theorem pt_bool {K : PySem.W.Frag} {t : TE} {T : FT} (ht : ∀ σ H Qv, tX K (bl T) σ H Qv → t σ H Qv) {σ : L2.St} {H : Hp} {Qb : Bool → Hp → Prop} (h : tT K T σ H Qb) : tB t σ H Qb := by
  obtain ⟨B, F, r, m, Q, S, w, k⟩ := h
  refine ht _ _ _ ⟨B, F, r, m, fun rv m' => match rv with
    | .d (.bl b) => Q b m'
    | _ => False, S, w, fun v H' ⟨F', m', rv, E, M, R, q⟩ => ?_⟩
  dsimp only at q
  split at q
  · next kb =>
    have ev := rep_bl_inv (show Rep K F' (.bl kb) v from R)
    subst ev
    exact ⟨kb, rfl, k kb H' ⟨F', m', E, M, q⟩⟩
  · exact q.elim
/-! ### is None, is True -/
theorem hd_non {K : PySem.W.Frag} {B : Bs} {F : Hp} {r : Ro} {m : Mu} {σ : L2.St} {H : Hp} (S : Sb K B F r m σ H) {g : Hd} {v : V} (h : HdOk K F r σ g v) : decide (v = .non) = isNon g := by
  cases g with
  | own i =>
    obtain ⟨e1, c, e2⟩ := h
    obtain ⟨o, eo, a, ea, _⟩ := S.sl i _ e2
    rw [eo] at e1
    have e4 : o = some v := Option.some.inj e1
    rw [ea] at e4
    cases e4
    rfl
  | d x =>
    have h : Rep K F x v := h
    cases x with
    | tup k ds => rw [Rep] at h; obtain ⟨a, vs, e, _⟩ := h; subst e; rfl
    | lst ds => rw [Rep] at h; obtain ⟨a, vs, e, _⟩ := h; subst e; rfl
    | dK k ds => rw [Rep] at h; obtain ⟨a, vs, e, _⟩ := h; subst e; rfl
    | dT k ds => rw [Rep] at h; obtain ⟨a, vs, e, _⟩ := h; subst e; rfl
    | _ => rw [Rep] at h; subst h; rfl
def isNT (ne : Bool) (a : FH) : FT := fun r m Q => a r m fun g m1 => Q (if ne then !isNon g else isNon g) m1
theorem isN_ok {K : PySem.W.Frag} {a : FH} {σ : L2.St} {H : Hp} {Qv : VK} (h : tX K (bl (isNT false a)) σ H Qv) : tIsN (tH K a) σ H Qv := by
  obtain ⟨B, F, r, m, Q, S, w, k⟩ := h
  refine ⟨B, F, r, m, _, S, w, fun v H1 ⟨F1, m1, g, E1, M1, h1, w1⟩ => ?_⟩
  show Qv (.bl (decide (v = .non))) H1
  rw [hd_non (S.go E1 M1) h1]
  exact k _ _ ⟨F1, m1, .d (.bl (isNon g)), E1, M1, (rep_bl : Rep K F1 (.bl (isNon g)) (.bl (isNon g))), w1⟩
theorem isN_okN {K : PySem.W.Frag} {a : FH} {σ : L2.St} {H : Hp} {Qv : VK} (h : tX K (bl (isNT true a)) σ H Qv) : tNotN (tH K a) σ H Qv := by
  obtain ⟨B, F, r, m, Q, S, w, k⟩ := h
  refine ⟨B, F, r, m, _, S, w, fun v H1 ⟨F1, m1, g, E1, M1, h1, w1⟩ => ?_⟩
  show Qv (.bl (!decide (v = .non))) H1
  rw [hd_non (S.go E1 M1) h1]
  exact k _ _ ⟨F1, m1, .d (.bl (!isNon g)), E1, M1, (rep_bl : Rep K F1 (.bl (!isNon g)) (.bl (!isNon g))), w1⟩
/-- x is True, whatever x is -/
def rIsC (ne : Bool) : R2 := fun x y H Q => ∃ c, y = .bl c ∧ Q (.bl (if ne then !decide (x = .bl c) else decide (x = .bl c))) H
theorem rel_bl {x : V} {v : Value} (r : RelV x v) (c : Bool) : (v == Value.bool c) = decide (x = .bl c) := by
  cases x with
  | non => cases r; rfl
  | bl b => cases r; cases b <;> cases c <;> rfl
  | int _ => obtain ⟨t, rfl⟩ := r; rfl
  | str _ => obtain ⟨t, rfl⟩ := r; rfl
  | byt _ => obtain ⟨t, rfl⟩ := r; rfl
  | flt _ => obtain ⟨t, rfl⟩ := r; rfl
  | ref _ => cases r; rfl
  | ty _ => cases r; rfl
theorem plain_bl {x : V} {v : Value} (r : RelV x v) (c : Bool) : plainIs v (Value.bool c) = true := by
  cases x with
  | non => cases r; rfl
  | bl b => cases r; rfl
  | int _ => obtain ⟨t, rfl⟩ := r; rfl
  | str _ => obtain ⟨t, rfl⟩ := r; rfl
  | byt _ => obtain ⟨t, rfl⟩ := r; rfl
  | flt _ => obtain ⟨t, rfl⟩ := r; rfl
  | ref _ => cases r; rfl
  | ty _ => cases r; rfl
theorem op_isC : OpR X (compareOp .Is) (rIsC false) := by
  intro pins s σ H x y v u Q I rx ry ⟨c, e, q⟩
  subst e
  cases (show u = Value.bool c from ry)
  exact wpAny_is_plain (plain_bl rx c) ⟨_, H, I, by rw [rel_bl rx]; rfl, q⟩
theorem op_notC : OpR X (compareOp .IsNot) (rIsC true) := by
  intro pins s σ H x y v u Q I rx ry ⟨c, e, q⟩
  subst e
  cases (show u = Value.bool c from ry)
  exact wpAny_isNot_plain (plain_bl rx c) ⟨_, H, I, by rw [rel_bl rx]; rfl, q⟩
theorem hd_bl {K : PySem.W.Frag} {B : Bs} {F : Hp} {r : Ro} {m : Mu} {σ : L2.St} {H : Hp} (S : Sb K B F r m σ H) {g : Hd} {v : V} (h : HdOk K F r σ g v) (c : Bool) : decide (v = .bl c) = isBl c g := by
  cases g with
  | own i =>
    obtain ⟨e1, c, e2⟩ := h
    obtain ⟨o, eo, a, ea, _⟩ := S.sl i _ e2
    rw [eo] at e1
    have e4 : o = some v := Option.some.inj e1
    rw [ea] at e4
    cases e4
    rfl
  | d x =>
    have h : Rep K F x v := h
    cases x with
    | tup k ds => rw [Rep] at h; obtain ⟨a, vs, e, _⟩ := h; subst e; rfl
    | lst ds => rw [Rep] at h; obtain ⟨a, vs, e, _⟩ := h; subst e; rfl
    | dK k ds => rw [Rep] at h; obtain ⟨a, vs, e, _⟩ := h; subst e; rfl
    | dT k ds => rw [Rep] at h; obtain ⟨a, vs, e, _⟩ := h; subst e; rfl
    | bl b => rw [Rep] at h; subst h; cases b <;> cases c <;> rfl
    | _ => rw [Rep] at h; subst h; rfl
def isBT (ne c : Bool) (a : FH) : FT := fun r m Q => a r m fun g m1 => Q (if ne then !isBl c g else isBl c g) m1
theorem isB_ok {K : PySem.W.Frag} {ne c : Bool} {a : FH} {σ : L2.St} {H : Hp} {Qv : VK} (h : tX K (bl (isBT ne c a)) σ H Qv) : tOp (rIsC ne) (tH K a) (tC (.bl c)) σ H Qv := by
  obtain ⟨B, F, r, m, Q, S, w, k⟩ := h
  refine ⟨B, F, r, m, _, S, w, fun v H1 ⟨F1, m1, g, E1, M1, h1, w1⟩ => ⟨c, rfl, ?_⟩⟩
  show Qv (.bl (if ne then !decide (v = .bl c) else decide (v = .bl c))) H1
  rw [hd_bl (S.go E1 M1) h1]
  exact k _ _ ⟨F1, m1, .d (.bl (if ne then !isBl c g else isBl c g)), E1, M1, (rep_bl : Rep K F1 (.bl _) (.bl _)), w1⟩
/-! ### chains -/
def chainT (o1 o2 : Cop) (a b c : FH) : FT := fun r m Q => a r m fun g m1 => b r m1 fun g2 m2 => sees r m2 g fun x => sees r m2 g2 fun y => cmpR o1 x y fun k =>
      if k = true then c r m2 fun g3 m3 => sees r m3 g2 fun y => sees r m3 g3 fun z => cmpR o2 y z fun k2 => Q k2 m3 else Q false m2
theorem cmpQ_bl {o : Cop} {x y : D} {Q : Bool → Prop} (h : cmpR o x y Q) : cmpQ o x y fun rv => ∃ k, rv = .d (.bl k) ∧ Q k := by
  cases x with
  | int i =>
    cases y with
    | int j => exact ⟨_, rfl, h⟩
    | _ => exact h.elim
  | _ => cases y <;> exact h.elim
theorem chain_ok {K : PySem.W.Frag} {o1 o2 : Cop} {a b c : FH} {σ : L2.St} {H : Hp} {Qv : VK} (h : tX K (bl (chainT o1 o2 a b c)) σ H Qv) : tChain (rDat K (cmpQ o1)) (rDat K (cmpQ o2)) (tH K a) (tH K b) (tH K c) σ H Qv := by
  obtain ⟨B, F, r, m, Q, S, w, k⟩ := h
  refine ⟨B, F, r, m, _, S, w, fun v H1 ⟨F1, m1, g, E1, M1, h1, w1⟩ => ?_⟩
  have S1 := S.go E1 M1
  refine ⟨B, F1, r, m1, _, S1, w1, fun u H2 ⟨F2, m2, g2, E2, M2, h2, w2⟩ => ?_⟩
  have S2 := S1.go E2 M2
  obtain ⟨x, e1, w2⟩ := seesE w2
  obtain ⟨y, e2, w3⟩ := seesE w2
  have E12 := E1.trans E2 M1
  refine ⟨F2, m2, x, y, _, M2, S2.see (h1.mono E2.le) e1, S2.see h2 e2, cmpQ_bl w3, fun z H3 ⟨F3, m3, rv, E3, M3, R3, em, kb, ekb, q⟩ => ?_⟩
  subst em ekb
  have ev := rep_bl_inv (show Rep K F3 (.bl kb) z from R3)
  subst ev
  have S3 := S2.go E3 M3
  have E13 := E12.trans E3 M2
  refine ⟨kb, rfl, ?_⟩
  cases kb with
  | false => exact k _ _ ⟨F3, m3, .d (.bl false), E13, M3, (rep_bl : Rep K F3 (.bl _) (.bl _)), q⟩
  | true =>
    refine ⟨B, F3, r, m3, _, S3, q, fun t H4 ⟨F4, m4, g3, E4, M4, h4, w4⟩ => ?_⟩
    have S4 := S3.go E4 M4
    obtain ⟨y4, e5, w4⟩ := seesE w4
    obtain ⟨z4, e6, w6⟩ := seesE w4
    exact ⟨F4, m4, y4, z4, _, M4, S4.see ((h2.mono E3.le).mono E4.le) e5, S4.see h4 e6, cmpQ_bl w6, fun z5 H5 ⟨F5, m5, rv, E5, M5, R5, em, kb, ekb, q⟩ => by
      subst em ekb
      exact k _ _ ⟨F5, m5, .d (.bl kb), ((E13.trans E4 M3).trans E5 M4), M5, R5, q⟩⟩
/-! ### calls of defs -/
def spC (K : PySem.W.Frag) (c : List D → Mu → QX → Prop) : Sp := fun vs H Q _ => ∃ F m ds Qd, Mem K F m H ∧ Reps K F ds vs ∧ c ds m Qd ∧ ∀ v H', PoX K F m H Qd v H' → Q v H'
theorem call_ok {K : PySem.W.Frag} {c : List D → Mu → QX → Prop} {t : FL} {σ : L2.St} {H : Hp} {Qv : VK} (h : tX K (fun r m Q => t r m fun ds m1 => c ds m1 Q) σ H Qv) : tCall (spC K c) [] E0 (tL K t) σ H Qv := by
  obtain ⟨B, F, r, m, Q, S, w, k⟩ := h
  exact ⟨B, F, r, m, _, S, w, fun vs H1 ⟨F1, m1, ds, E1, M1, R1, w1⟩ => ⟨F1, m1, ds, Q, M1, by rw [List.append_nil]; exact R1, w1, fun v H' p => k v H' (p.back E1 M1)⟩⟩
/-! ### objects are changed -/
theorem seesI {r : Ro} {m : Mu} {g : Hd} {Q : D → Prop} (h : sees r m g Q) : ∃ c, vw r m g = some c ∧ Q c := seesE h
theorem own_lst_inv {K : PySem.W.Frag} {F H : Hp} {a : Addr} {ds : List D} (h : Own K F H a (.lst ds)) : ∃ vs, H a = some (.lst vs) ∧ Reps K F ds vs := h
theorem lst_of {c : D} (h : isLst c = true) : ∃ ds, c = .lst ds := by cases c <;> first | exact ⟨_, rfl⟩ | cases h
theorem ty_lst {K : PySem.W.Frag} {F H : Hp} {a : Addr} {c : D} (h : Own K F H a c) (e : isLst c = true) : tyV K "list" (.ref a) H := by
  obtain ⟨ds, rfl⟩ := lst_of e
  obtain ⟨vs, q, _⟩ := h
  exact .inl ⟨rfl, vs, .inl (.inl q)⟩
theorem put_lst {K : PySem.W.Frag} {B : Bs} {F : Hp} {r : Ro} {m : Mu} {σ : L2.St} {H : Hp} (S : Sb K B F r m σ H) {g : Hd} {a : Addr} {c : D} {ds' : List D} {vs' : List V} {Q : Ro → Mu → Prop} (h : HdOk K F r σ g (.ref a)) (e : vw r m g = some c) (w : putH r m g (.lst ds') Q) (R : Reps K F ds' vs') :
    ∃ r' m', Sb K B F r' m' σ (upd H a (.lst vs')) ∧ Q r' m' := S.put h e w (fun _ z => by cases z) ⟨vs', upd_same, R⟩
abbrev appS (i : Nat) (x : FX) : FS := fun E r m => hdlR r i fun g => sees r m g (fun c => isLst c = true) ∧ x r m fun v m2 => sees r m2 g fun c => match c with
    | .lst ds => ds.length < sizeLine ∧ putH r m2 g (.lst (ds ++ [v.toD])) E.nx
    | _ => False
theorem Sb.owned {K : PySem.W.Frag} {B : Bs} {F : Hp} {r : Ro} {m : Mu} {σ : L2.St} {H : Hp} (S : Sb K B F r m σ H) {g : Hd} {a : Addr} {c c' : D} {Q : Ro → Mu → Prop} (h : HdOk K F r σ g (.ref a)) (e : vw r m g = some c) (w : putH r m g c' Q) : Own K F H a c := by
  cases g with
  | own i =>
    obtain ⟨e1, c2, e2⟩ := h
    have e3 : vw r m (.own i) = some c2 := by
      show (match r[i]? with | some (.ow c) => some c | _ => none) = some c2
      rw [e2]
    rw [e3] at e
    cases e
    obtain ⟨o, eo, b, eb, _, _, _, ho⟩ := S.sl i _ e2
    rw [eo] at e1
    subst eb
    cases e1
    exact ho
  | d x =>
    cases x with
    | cell b =>
      have hv : Rep K F (.cell b) (.ref a) := h
      rw [Rep] at hv
      cases hv
      exact (S.mem.cells _ _ e).2
    | _ => exact w.elim
theorem app_ok {K : PySem.W.Frag} {i : Nat} {x : FX} {D : Ends} {σ : L2.St} {H : Hp} (h : tS K (appS i x) D σ H) : tDrop (tBM K "list" rAppend (tVar i) (tCons (tD K (toD x)) tNil)) D σ H := by
  obtain ⟨B, F, r, m, E, S, e0, w, ok⟩ := h
  obtain ⟨g, a, ⟨w0, w⟩, es, hg, ho⟩ := S.hdl w
  obtain ⟨c, ec, hl⟩ := seesE w0
  refine ⟨_, es, ty_lst (ho ec) hl, B, F, r, m, fun d m2 => sees r m2 g fun c => match c with
    | .lst ds => ds.length < sizeLine ∧ putH r m2 g (.lst (ds ++ [d])) E.nx
    | _ => False, S, w, fun v H1 ⟨F1, m1, d, E1, M1, R1, w1⟩ => ?_⟩
  obtain ⟨c1, ec1, w1⟩ := seesE w1
  have S1 := S.go E1 M1
  have hg1 := hg.mono E1.le
  cases c1 with
  | lst ds =>
    obtain ⟨hz, w1⟩ := w1
    obtain ⟨vs, ev, R⟩ := S1.owned hg1 ec1 w1
    obtain ⟨r', m', S', w'⟩ := put_lst S1 hg1 ec1 w1 (R.append (.cons R1 .nil))
    exact ⟨a, vs, v, rfl, rfl, ev, by rw [R.length]; exact hz, ok.nx F1 r' m' σ _ E1.le S' w'⟩
  | _ => exact w1.elim
abbrev extS (i : Nat) (x : FX) : FS := fun E r m => hdlR r i fun g => sees r m g (fun c => isLst c = true) ∧ x r m fun v m2 => sees r m2 g fun c => match c, v with
    | .lst xs, .o (.lst ys) => xs.length + ys.length ≤ sizeLine ∧ putH r m2 g (.lst (xs ++ ys)) E.nx
    | _, _ => False
theorem ext_ok {K : PySem.W.Frag} {i : Nat} {x : FX} {D : Ends} {σ : L2.St} {H : Hp} (h : tS K (extS i x) D σ H) : tDrop (tBM K "list" rExtend (tVar i) (tCons (tX K x) tNil)) D σ H := by
  obtain ⟨B, F, r, m, E, S, e0, w, ok⟩ := h
  obtain ⟨g, a, ⟨w0, w⟩, es, hg, ho⟩ := S.hdl w
  obtain ⟨c, ec, hl⟩ := seesE w0
  refine ⟨_, es, ty_lst (ho ec) hl, B, F, r, m, _, S, w, fun v H1 ⟨F1, m1, rv, E1, M1, R1, w1⟩ => ?_⟩
  obtain ⟨c1, ec1, w1⟩ := seesE w1
  have S1 := S.go E1 M1
  have hg1 := hg.mono E1.le
  cases c1 with
  | lst ds =>
    cases rv with
    | d _ => exact w1.elim
    | o c2 =>
      cases c2 with
      | lst ys =>
        obtain ⟨hz, w1⟩ := w1
        obtain ⟨vs, ev, R⟩ := S1.owned hg1 ec1 w1
        obtain ⟨b, rfl, bF, bm, b0, us, eb, Rb⟩ := R1
        obtain ⟨r', m', S', w'⟩ := put_lst S1 hg1 ec1 w1 (R.append Rb)
        exact ⟨a, b, vs, us, rfl, rfl, ev, eb, by rw [R.length, Rb.length]; exact hz, ok.nx F1 r' m' σ _ E1.le S' w'⟩
      | _ => exact w1.elim
  | _ => exact w1.elim
abbrev insS (i : Nat) (t : FL) : FS := fun E r m => hdlR r i fun g => sees r m g (fun c => isLst c = true) ∧ t r m fun ds m2 => sees r m2 g fun c => match c, ds with
    | .lst xs, [.int k, y] => xs.length < sizeLine ∧ 0 ≤ k ∧ k ≤ xs.length ∧ putH r m2 g (.lst (xs.take k.toNat ++ y :: xs.drop k.toNat)) E.nx
    | _, _ => False
def rInsert : V → List V → Hp → VK → Prop := fun x vs H Q => ∃ (l : Addr) (xs : List V) (i : Int) (y : V), x = .ref l ∧ vs = [.int i, y] ∧ H l = some (.lst xs) ∧ xs.length < sizeLine ∧ 0 ≤ i ∧ i < 2 ^ 63 ∧
    Q .non (upd H l (.lst (xs.take i.toNat ++ [y] ++ xs.drop i.toNat)))
theorem line_small : sizeLine < 2 ^ 62 := by rw [sizeLine_eq]; decide
theorem ins_ok {K : PySem.W.Frag} {i : Nat} {t : FL} {D : Ends} {σ : L2.St} {H : Hp} (h : tS K (insS i t) D σ H) : tDrop (tBM K "list" rInsert (tVar i) (tL K t)) D σ H := by
  obtain ⟨B, F, r, m, E, S, e0, w, ok⟩ := h
  obtain ⟨g, a, ⟨w0, w⟩, es, hg, ho⟩ := S.hdl w
  obtain ⟨c, ec, hl⟩ := seesE w0
  refine ⟨_, es, ty_lst (ho ec) hl, B, F, r, m, _, S, w, fun vs H1 ⟨F1, m1, ds, E1, M1, R1, w1⟩ => ?_⟩
  obtain ⟨c1, ec1, w1⟩ := seesE w1
  have S1 := S.go E1 M1
  have hg1 := hg.mono E1.le
  split at w1
  · next xs k y _ =>
    obtain ⟨hz, h0, h1, w1⟩ := w1
    obtain ⟨us, ev, R⟩ := S1.owned hg1 ec1 w1
    obtain ⟨v1, vr, e1, r1, R2⟩ := R1.of_cons
    obtain ⟨v2, vr2, e2, r2, R3⟩ := R2.of_cons
    have e3 := R3.of_nil
    rw [Rep] at r1
    subst e3 e2 e1 r1
    obtain ⟨r', m', S', w'⟩ := put_lst S1 hg1 ec1 w1 ((R.take k.toNat).append (.cons r2 (R.drop k.toNat)))
    refine ⟨a, us, k, v2, rfl, rfl, ev, by rw [R.length]; exact hz, h0, ?_, ?_⟩
    · have := line_small
      have h2 : (xs.length : Int) < 2 ^ 62 := by omega
      omega
    · rw [List.append_assoc]
      exact ok.nx F1 r' m' σ _ E1.le S' w'
  · exact w1.elim
/-! ### pop -/
abbrev popF (i : Nat) (t : FL) (Q : D → List D → Mu → Prop) : Ro → Mu → Prop := fun r m => t r m fun ds m1 => ∃ k, intOf ds = some k ∧ popR r i k fun d l => Q d l m1
def tPop (K : PySem.W.Frag) (i : Nat) (t : FL) : TE := fun σ H Qv => ∃ B F r m Q, Sb K B F r m σ H ∧ isOwnL r i = true ∧ popF i t Q r m ∧ ∀ v H' F' d l m1, Le F F' → Sb K B F' (r.set i (.ow (.lst l))) m1 σ H' → Rep K F' d v → Q d l m1 → Qv v H'
theorem pop_own {r : Ro} {i : Nat} (h : isOwnL r i = true) : ∃ c, r[i]? = some (.ow (.lst c)) := by
  unfold isOwnL at h
  split at h
  · next e => exact ⟨_, e⟩
  · cases h
theorem pop_step {K : PySem.W.Frag} {B : Bs} {F : Hp} {r : Ro} {m : Mu} {σ : L2.St} {H : Hp} (S : Sb K B F r m σ H) {i : Nat} {ds : List D} {a : Addr} (e : r[i]? = some (.ow (.lst ds))) (es : σ[i]? = some (some (V.ref a))) :
    ∃ vs, H a = some (.lst vs) ∧ Reps K F ds vs ∧ ∀ ds' vs', Reps K F ds' vs' → Sb K B F (r.set i (.ow (.lst ds'))) m σ (upd H a (.lst vs')) := by
  obtain ⟨o, eo, b, eb, _, _, _, ho⟩ := S.sl i _ e
  rw [es] at eo
  cases eo
  cases eb
  obtain ⟨vs, ev, R⟩ := ho
  exact ⟨vs, ev, R, fun ds' vs' R' => S.wrOw e es (fun _ z => by cases z) ⟨vs', upd_same, R'⟩⟩
theorem dropLast_rep {K : PySem.W.Frag} {F : Hp} {ds : List D} {vs : List V} (R : Reps K F ds vs) : Reps K F ds.dropLast vs.dropLast := by
  rw [List.dropLast_eq_take, List.dropLast_eq_take, R.length]
  exact R.take _
theorem pop0_ok {K : PySem.W.Frag} {i : Nat} {σ : L2.St} {H : Hp} {Qv : VK} (h : tPop K i nilL σ H Qv) : tBM0 K "list" rPop (tVar i) σ H Qv := by
  obtain ⟨B, F, r, m, Q, S, eO, ⟨k, ek, w⟩, k2⟩ := h
  cases ek
  obtain ⟨c, ec⟩ := pop_own eO
  obtain ⟨o, eo, a, ea, _, _, _, ho⟩ := S.sl i _ ec
  subst ea
  obtain ⟨vs, ev, R, put⟩ := pop_step S ec eo
  unfold popR at w
  rw [ec] at w
  obtain ⟨d, ed, w⟩ := w
  obtain ⟨v, evv, rv⟩ := R.get ed
  exact ⟨_, eo, .inl ⟨rfl, vs, .inl (.inl ev)⟩, a, vs, v, rfl, rfl, ev, by rw [R.length]; exact evv, k2 v _ F d _ m .refl (put _ _ (dropLast_rep R)) rv w⟩
theorem seqIx {k : Int} {n : Nat} (h0 : 0 ≤ k) (h : k.toNat < n) : seqIndex? k n = some k.toNat := by
  unfold seqIndex?
  have h2 : ¬ k < 0 := by omega
  have h3 : k < n := by omega
  simp [h2, h0, h3]
theorem pop1_ok {K : PySem.W.Frag} {i : Nat} {f : FX} {σ : L2.St} {H : Hp} {Qv : VK} (h : tPop K i (consL f nilL) σ H Qv) : tBM K "list" rPopAt (tVar i) (tCons (tD K (toD f)) tNil) σ H Qv := by
  obtain ⟨B, F, r, m, Q, S, eO, w, k2⟩ := h
  obtain ⟨c, ec⟩ := pop_own eO
  obtain ⟨o, eo, a, ea, _, _, _, ho⟩ := S.sl i _ ec
  subst ea
  obtain ⟨vs0, ev0, _⟩ := id ho
  refine ⟨_, eo, .inl ⟨rfl, vs0, .inl (.inl ev0)⟩, B, F, r, m, fun d m1 => ∃ k, intOf [d] = some k ∧ popR r i k fun d r1 => Q d r1 m1, S, w, fun v H1 ⟨F1, m1, d1, E1, M1, R1, k, ek, w1⟩ => ?_⟩
  have S1 := S.go E1 M1
  obtain ⟨vs, ev, R, put⟩ := pop_step S1 ec eo
  cases d1 with
  | int j =>
    cases ek
    rw [Rep] at R1
    subst R1
    unfold popR at w1
    rw [ec] at w1
    obtain ⟨d, h0, h1, ed, w1⟩ := w1
    obtain ⟨v, evv, rv⟩ := R.get ed
    have hl := (List.getElem?_eq_some_iff.mp evv).1
    exact ⟨a, vs, j, j.toNat, v, rfl, rfl, ev, by omega, by omega, seqIx h0 hl, evv, k2 v _ F1 d _ m1 E1.le (put _ _ (R.eraseIdx _)) rv w1⟩
  | _ => cases ek
abbrev popS (i : Nat) (t : FL) (g : List Tg) : FS := fun E r m => isOwnL r i = true ∧ t r m fun ds m1 => ∃ k, intOf ds = some k ∧ popR r i k fun d l => match g with
    | [] => E.nx (r.set i (.ow (.lst l))) m1
    | g :: _ => tgR g d (r.set i (.ow (.lst l))) fun r2 => E.nx r2 m1
theorem popS_ok {K : PySem.W.Frag} {te : TE} {i : Nat} {t : FL} {g : TG} {tg : Tg} (ht : ∀ σ H Qv, tPop K i t σ H Qv → te σ H Qv) (hg : ∀ v σ H Q, tTg K tg v σ H Q → g v σ H Q) {D : Ends} {σ : L2.St} {H : Hp}
    (h : tS K (popS i t [tg]) D σ H) : tAsg te g D σ H := by
  obtain ⟨B, F, r, m, E, S, e0, ⟨ec, w⟩, ok⟩ := h
  exact ht _ _ _ ⟨B, F, r, m, fun d l m1 => tgR tg d (r.set i (.ow (.lst l))) fun r2 => E.nx r2 m1, S, ec, w, fun v H' F' d l m1 le S' R q => hg _ _ _ _ ⟨B, F', _, m1, d, _, S', R, q, fun r' σ' S'' w' _ _ => ok.nx F' r' m1 σ' H' le S'' w'⟩⟩
theorem popD_ok {K : PySem.W.Frag} {te : TE} {i : Nat} {t : FL} (ht : ∀ σ H Qv, tPop K i t σ H Qv → te σ H Qv) {D : Ends} {σ : L2.St} {H : Hp}
    (h : tS K (popS i t []) D σ H) : tDrop te D σ H := by
  obtain ⟨B, F, r, m, E, S, e0, ⟨ec, w⟩, ok⟩ := h
  exact ht _ _ _ ⟨B, F, r, m, fun d l m1 => E.nx (r.set i (.ow (.lst l))) m1, S, ec, w, fun v H' F' d l m1 le S' R q => ok.nx F' _ m1 σ H' le S' q⟩
/-- h.append(j.pop(..)) -/
abbrev appPopS (i j : Nat) (t : FL) : FS := fun E r m => hdlR r i fun g => sees r m g (fun c => isLst c = true) ∧ isOwnL r j = true ∧ i ≠ j ∧ t r m fun ds m2 => ∃ k, intOf ds = some k ∧ popR r j k fun d l => sees (r.set j (.ow (.lst l))) m2 g fun c => match c with
    | .lst ds => ds.length < sizeLine ∧ putH (r.set j (.ow (.lst l))) m2 g (.lst (ds ++ [d])) E.nx
    | _ => False
theorem hdl_pop {K : PySem.W.Frag} {F F' : Hp} {r : Ro} {σ : L2.St} {g : Hd} {v : V} {i j : Nat} {c : D} (le : Le F F') (h : HdOk K F r σ g v) (hg : hdlR r i fun g' => g' = g) (hij : i ≠ j) : HdOk K F' (r.set j (.ow c)) σ g v := by
  cases g with
  | d x => exact Rep.mono le h
  | own k =>
    obtain ⟨e1, c2, e2⟩ := h
    refine ⟨e1, ?_⟩
    unfold hdlR at hg
    split at hg
    · cases hg
    · cases hg
      exact ⟨c2, by rw [List.getElem?_set_ne (fun z => hij z.symm)]; exact e2⟩
    · exact hg.elim
theorem hdlR_and {r : Ro} {i : Nat} {Q : Hd → Prop} (h : hdlR r i Q) : hdlR r i fun g => Q g ∧ hdlR r i fun g' => g' = g := by
  unfold hdlR at h ⊢
  split at h
  · exact ⟨h, rfl⟩
  · exact ⟨h, rfl⟩
  · exact h.elim
theorem appPop_ok {K : PySem.W.Frag} {te : TE} {i j : Nat} {t : FL} (ht : ∀ σ H Qv, tPop K j t σ H Qv → te σ H Qv) {D : Ends} {σ : L2.St} {H : Hp} (h : tS K (appPopS i j t) D σ H) : tDrop (tBM K "list" rAppend (tVar i) (tCons te tNil)) D σ H := by
  obtain ⟨B, F, r, m, E, S, e0, w, ok⟩ := h
  obtain ⟨g, a, ⟨⟨w0, eo, hij, w⟩, hgi⟩, es, hg, ho⟩ := S.hdl (hdlR_and w)
  obtain ⟨c, ec, hl⟩ := seesE w0
  refine ⟨_, es, ty_lst (ho ec) hl, ht _ _ _ ⟨B, F, r, m, fun d l m2 => sees (r.set j (.ow (.lst l))) m2 g fun c => match c with
    | .lst ds => ds.length < sizeLine ∧ putH (r.set j (.ow (.lst l))) m2 g (.lst (ds ++ [d])) E.nx
    | _ => False, S, eo, w, ?_⟩⟩
  rintro v H1 F1 d l m1 le S1 R1 w1
  obtain ⟨c1, ec1, w1⟩ := seesE w1
  have hg1 : HdOk K F1 (r.set j (.ow (.lst l))) σ g (.ref a) := hdl_pop le hg hgi hij
  cases c1 with
  | lst ds =>
    obtain ⟨hz, w1⟩ := w1
    obtain ⟨vs, ev, R⟩ := S1.owned hg1 ec1 w1
    obtain ⟨r', m', S', w'⟩ := put_lst S1 hg1 ec1 w1 (R.append (.cons R1 .nil))
    exact ⟨a, vs, v, rfl, rfl, ev, by rw [R.length]; exact hz, ok.nx F1 r' m' σ _ le S' w'⟩
  | _ => exact w1.elim
/-! ### a[i] = v -/
theorem putK_keys {κ : Type} [DecidableEq κ] (ws : List (κ × V)) (k : κ) (v : V) : (putK ws k v).map (·.1) = putKs (ws.map (·.1)) k := by
  unfold putK putKs
  have e : (ws.any fun kv => decide (kv.1 = k)) = true ↔ k ∈ ws.map (·.1) := by
    rw [List.any_eq_true, List.mem_map]
    constructor
    · rintro ⟨x, hx, e⟩
      exact ⟨x, hx, of_decide_eq_true e⟩
    · rintro ⟨x, hx, e⟩
      exact ⟨x, hx, decide_eq_true e⟩
  by_cases h : k ∈ ws.map (·.1)
  · rw [if_pos (e.mpr h), if_pos h, List.map_map]
    apply List.map_congr_left
    intro x _
    show (if x.1 = k then (x.1, v) else x).1 = x.1
    split <;> rfl
  · rw [if_neg (fun z => h (e.mp z)), if_neg h, List.map_append]
    rfl
theorem repl_rep {κ : Type} [DecidableEq κ] {K : PySem.W.Frag} {F : Hp} (k : κ) {d : D} {v : V} (r : Rep K F d v) : ∀ {ws : List (κ × V)} {ds : List D}, Reps K F ds (ws.map (·.2)) → Reps K F (replD (ws.map (·.1)) ds k d) ((ws.map fun kv => if kv.1 = k then (kv.1, v) else kv).map (·.2))
  | [], ds, q => by
    cases ds with
    | nil => exact .nil
    | cons x xs =>
      have := q.length
      simp at this
  | w :: ws, ds, q => by
    cases ds with
    | nil => have := q.length; simp at this
    | cons x xs =>
      obtain ⟨v1, vr, e, r1, r2⟩ := q.of_cons
      cases e
      have ih := repl_rep k r r2
      show Reps K F ((if w.1 = k then d else x) :: replD (ws.map (·.1)) xs k d) ((if w.1 = k then (w.1, v) else w).2 :: _)
      by_cases h : w.1 = k
      · rw [if_pos h, if_pos h]; exact .cons r ih
      · rw [if_neg h, if_neg h]; exact .cons r1 ih
theorem putK_rep {κ : Type} [DecidableEq κ] {K : PySem.W.Frag} {F : Hp} (k : κ) {d : D} {v : V} (r : Rep K F d v) {ws : List (κ × V)} {ds : List D} (q : Reps K F ds (ws.map (·.2))) : Reps K F (putDs (ws.map (·.1)) ds k d) ((putK ws k v).map (·.2)) := by
  unfold putK putDs
  have e : (ws.any fun kv => decide (kv.1 = k)) = true ↔ k ∈ ws.map (·.1) := by
    rw [List.any_eq_true, List.mem_map]
    constructor
    · rintro ⟨x, hx, e⟩
      exact ⟨x, hx, of_decide_eq_true e⟩
    · rintro ⟨x, hx, e⟩
      exact ⟨x, hx, decide_eq_true e⟩
  by_cases h : k ∈ ws.map (·.1)
  · rw [if_pos (e.mpr h), if_pos h]
    exact repl_rep k r q
  · rw [if_neg (fun z => h (e.mp z)), if_neg h, List.map_append]
    exact q.append (.cons r .nil)
/-- the dict at a is given d[k] = e -/
theorem dput_ok {K : PySem.W.Frag} {F H : Hp} (s : Same F H) {a : Addr} {c c2 kd vd : D} {kv v : V} (hc : Own K F H a c) (hz : dlen c < sizeLine) (hk : Rep K F kd kv) (hv : Rep K F vd v) (e : dput c kd vd = some c2) :
    ∃ o', DPut H a kv v (upd H a o') ∧ NoTup o' ∧ Own K F (upd H a o') a c2 := by
  cases c with
  | dK ks ds =>
    obtain ⟨ws, hw, ek, R⟩ := hc
    subst ek
    have e : (match keyOf kd with
      | some k => some (Pd.D.dK (putKs (ws.map (·.1)) k) (putDs (ws.map (·.1)) ds k vd))
      | none => none) = some c2 := e
    cases h : keyOf kd with
    | none => rw [h] at e; cases e
    | some key =>
      rw [h] at e
      cases e
      have ev := kV_rep h hk
      subst ev
      refine ⟨_, .k hw ?_, (fun _ z => by cases z), _, upd_same, putK_keys .., putK_rep key hv R⟩
      simpa [dlen] using hz
  | dT ks ds =>
    obtain ⟨ws, hw, ek, R⟩ := hc
    subst ek
    cases kd with
    | tup b ys =>
      cases b with
      | true => cases e
      | false =>
        have e : (match keysOf ys with
          | some k => some (Pd.D.dT (putKs (ws.map (·.1)) k) (putDs (ws.map (·.1)) ds k vd))
          | none => none) = some c2 := e
        cases h : keysOf ys with
        | none => rw [h] at e; cases e
        | some key =>
          rw [h] at e
          cases e
          rw [Rep] at hk
          obtain ⟨p, vs, rfl, tf, Rk⟩ := hk
          have ev := kVs_rep h Rk
          subst ev
          refine ⟨_, .t hw (s _ _ tf) ?_, (fun _ z => by cases z), _, upd_same, putK_keys .., putK_rep key hv R⟩
          simpa [dlen] using hz
    | _ => cases e
  | lst _ => cases e
  | _ => exact hc.elim
theorem PSet.or {t t' : TSet} (h : PSet X t) (h' : PSet X t') : PSet X (fun o i v H Q => t o i v H Q ∨ t' o i v H Q) := by
  intro pins s σ H o i v ov iv u Q I r1 r2 r3 w
  rcases w with w | w
  · exact h pins s σ H o i v ov iv u Q I r1 r2 r3 w
  · exact h' pins s σ H o i v ov iv u Q I r1 r2 r3 w
def rDPut : V → V → V → Hp → (Hp → Prop) → Prop := fun o i v H Q => ∃ a H', o = .ref a ∧ DPut H a i v H' ∧ Q H'
theorem set_dict (hu : X.A.units + 1 < cLine) : PSet X rDPut := by
  intro pins s σ H o i v ov iv u Q I ro ri rv ⟨a, H', e, g, q⟩
  subst e
  cases ro
  exact d_setItem hu I g ri rv fun s' I' => ⟨H', I', q⟩
abbrev setIS (i : Nat) (k x : FX) : FS := fun E r m => x r m fun v m1 => hdlR r i fun g => k r m1 fun k m3 => sees r m3 g fun c => match c with
    | .lst xs => ∃ i j, k.toD = .int i ∧ ixN xs.length i = some j ∧ putH r m3 g (.lst (xs.set j v.toD)) E.nx
    | .dK ks ds => ∃ c2, ks.length < sizeLine ∧ dput (.dK ks ds) k.toD v.toD = some c2 ∧ putH r m3 g c2 E.nx
    | .dT ks ds => ∃ c2, ks.length < sizeLine ∧ dput (.dT ks ds) k.toD v.toD = some c2 ∧ putH r m3 g c2 E.nx
    | _ => False
theorem setI_ok {K : PySem.W.Frag} {i : Nat} {k x : FX} {D : Ends} {σ : L2.St} {H : Hp} (h : tS K (setIS i k x) D σ H) :
    tAsg (tD K (toD x)) (gSub (tVar i) (tD K (toD k)) fun o i v H Q => rSetL o i v H Q ∨ rDPut o i v H Q) D σ H := by
  obtain ⟨B, F, r, m, E, S, e0, w, ok⟩ := h
  refine ⟨B, F, r, m, fun vd m1 => hdlR r i fun g => k r m1 fun k m3 => sees r m3 g fun c => match c with
    | .lst xs => ∃ i j, k.toD = .int i ∧ ixN xs.length i = some j ∧ putH r m3 g (.lst (xs.set j vd)) E.nx
    | .dK ks ds => ∃ c2, ks.length < sizeLine ∧ dput (.dK ks ds) k.toD vd = some c2 ∧ putH r m3 g c2 E.nx
    | .dT ks ds => ∃ c2, ks.length < sizeLine ∧ dput (.dT ks ds) k.toD vd = some c2 ∧ putH r m3 g c2 E.nx
    | _ => False, S, w, fun v H1 ⟨F1, m1, vd, E1, M1, R1, w1⟩ => ?_⟩
  have S1 := S.go E1 M1
  obtain ⟨g, a, w2, es, hg, ho⟩ := S1.hdl w1
  refine ⟨_, es, B, F1, r, m1, fun kd m3 => sees r m3 g fun c => match c with
    | .lst xs => ∃ i j, kd = .int i ∧ ixN xs.length i = some j ∧ putH r m3 g (.lst (xs.set j vd)) E.nx
    | .dK ks ds => ∃ c2, ks.length < sizeLine ∧ dput (.dK ks ds) kd vd = some c2 ∧ putH r m3 g c2 E.nx
    | .dT ks ds => ∃ c2, ks.length < sizeLine ∧ dput (.dT ks ds) kd vd = some c2 ∧ putH r m3 g c2 E.nx
    | _ => False, S1, w2, fun kv H3 ⟨F3, m3, kd, E3, M3, R3, w3⟩ => ?_⟩
  obtain ⟨c, ec, w3⟩ := seesE w3
  have S3 := S1.go E3 M3
  have hg3 := hg.mono E3.le
  have Rv := R1.mono E3.le
  have dict : ∀ {c c2 : Pd.D}, vw r m3 g = some c → dlen c < sizeLine → dput c kd vd = some c2 → putH r m3 g c2 E.nx → rDPut (.ref a) kv v H3 fun H3 => D.nx σ H3 := fun {c c2} ec hz ed w4 => by
    obtain ⟨o', dp, nt, ho2⟩ := dput_ok M3.same (S3.owned hg3 ec w4) hz R3 Rv ed
    obtain ⟨r', m', S', w'⟩ := S3.put hg3 ec w4 nt ho2
    exact ⟨a, _, rfl, dp, ok.nx F3 r' m' σ _ (E1.le.trans E3.le) S' w'⟩
  cases c with
  | lst ds =>
    obtain ⟨ii, j, ek, ej, w4⟩ := w3
    subst ek
    rw [Rep] at R3
    subst R3
    obtain ⟨vs, ev, R⟩ := S3.owned hg3 ec w4
    obtain ⟨r', m', S', w'⟩ := put_lst S3 hg3 ec w4 (R.set j Rv)
    exact .inl ⟨a, vs, ii, j, rfl, rfl, ev, by rw [R.length]; exact ej, ok.nx F3 r' m' σ _ (E1.le.trans E3.le) S' w'⟩
  | dK ks ds =>
    obtain ⟨c2, hz, ed, w4⟩ := w3
    exact .inr (dict ec hz ed w4)
  | dT ks ds =>
    obtain ⟨c2, hz, ed, w4⟩ := w3
    exact .inr (dict ec hz ed w4)
  | _ => exact w3.elim
end
end Pd
/-! Pd: dict comprehensions, keys ints, texts or tuples of them. -/
namespace Pd
open PySem PySem.Spec PyProof.Rows L2
abbrev bCells (X : Cx) (scope : Scope) (s : Shared) : List (Str × Addr) := cellsFrom (s.heap.objs.size + 1) scope.names (cloFrom X.env.cells scope.names [])
abbrev bEnv (X : Cx) (scope : Scope) (s : Shared) : Env := compEnvC scope (bCells X scope s) s.heap.objs.size X.env
abbrev bCx (X : Cx) (scope : Scope) (s : Shared) (H : Hp) (fp : List Addr) : Cx := X.blk s H scope (bEnv X scope s) fp
/-- a comprehension's setting of a key -/
theorem dset_ok {X : Cx} {pins : List (Addr × Obj)} {σ : L2.St} {H H' : Hp} {s : Shared} {E : Value → Shared → Prop} {a : Addr} {y v : V} {u z : Value} {Q : Unit → Shared → Prop} (hu : X.A.units + 1 < cLine) (I : L2.Inv X pins σ H s) (g : DPut H a y v H') (ry : RelV y u) (rv : RelV v z)
    (h : ∀ s', L2.Inv X pins σ H' s' → Q () s') : wpAny (model X.prog X.w) X.A (dictSet a u z) Q E s := by
  rcases g with ⟨kvs, k, e, rfl, l, rfl⟩ | ⟨kvs, k, b, e, rfl, eb, l, rfl⟩
  · exact d_dictSet I e l ry rv h
  · cases (show u = Value.ref b from ry)
    obtain ⟨n1, n2, xs, rel, dd⟩ := dt_of I.hok e
    have n3 : (putK kvs k v).length ≤ sizeLine := Nat.le_trans (length_putK kvs k v) l
    have n4 := Paired.length rel
    refine wpAny_dictSet_heap (hsz := n4 ▸ n1) (show (tupleKind (mixKind X.prog X.w)).room X.A from Nat.lt_of_succ_lt hu) (key_of I.hok eb) dd fun h' dd' same => h _ ?_
    obtain ⟨q, es, ep, c1, c2, c3, c4, _, c5⟩ := dd'
    have keep : ∀ c ys, H c = some (.tup ys) → upd H a (.dT (putK kvs k v)) c = some (.tup ys) := fun c ys ec => by
      rw [upd_ne (ne_of ec e (fun z => nomatch z))]
      exact ec
    exact d_write I (by rw [e]; exact True.intro) same ⟨q, c1⟩ ⟨n3, n2, _, (rel.put k eb rv).keeps keep, q, es, ep, c1, c2, c3, c4, c5⟩
/-- an own dict at D is given a key -/
theorem acc_put {K : PySem.W.Frag} {F1 F : Hp} {m1 m : Mu} {H1 H : Hp} {a : Addr} {acc acc2 kd vd : D} {kv v : V} (E : Ext F1 m1 H1 F m H) (M : Mem K F m H) (A : Acc K F m H a acc) (h1 : H1 a = none) (hz : dlen acc < sizeLine) (hk : Rep K F kd kv) (hv : Rep K F vd v) (e : dput acc kd vd = some acc2) :
    ∃ o, DPut H a kv v (upd H a o) ∧ Ext F1 m1 H1 F m (upd H a o) ∧ Mem K F m (upd H a o) ∧ Acc K F m (upd H a o) a acc2 := by
  obtain ⟨o, g, nt, own⟩ := dput_ok M.same A.2.2 hz hk hv e
  exact ⟨o, g, E.wr h1 o, M.wr A.1 A.2.1 o, A.1, A.2.1, own⟩
def dEl (fk fv : FX) : Ro → Mu → (D → D → Mu → Prop) → Prop := fun r2 m2 Q2 => fk r2 m2 fun a m3 => fv r2 m3 fun b m4 => Q2 a.toD b.toD m4
def hoK (t : Bool) : HO := if t then .dT [] else .dK []
theorem own_dK0 {K : PySem.W.Frag} {F H : Hp} {a : Addr} (t : Bool) : Own K F (upd H a (hoK t)) a (dK0 t) := by
  cases t
  · exact ⟨[], upd_same, rfl, .nil⟩
  · exact ⟨[], upd_same, rfl, .nil⟩
section
variable {X : Cx} {tg iter kx vx : Expr} {ifs : List Expr} {scope : Scope} {own : List (Str × Nat)} {pos : Pos} {g : Tg} {it : FL} {tt : FT} {fk fv : FX}
theorem dlaid {pins : List (Addr × Obj)} {σ : L2.St} {H : Hp} {s : Shared} (I : L2.Inv X pins σ H s) (t : Bool) : L2.Inv X pins σ (upd H s.heap.objs.size (hoK t)) { s with heap := s.heap.push { cls := .type "dict", data := .dict #[] } } := by
  have old : ∀ b o, s.heap.get? b = some o → (s.heap.push { cls := .type "dict", data := .dict #[] }).get? b = some o := fun b o e => Heap.get?_push_of_some _ e
  cases t
  · exact I.laid (t' := s.toks) old (Nat.le_refl _) (dk_empty s.heap I.big)
  · exact I.laid (t' := s.toks) old (Nat.le_refl _) (dt_empty s.heap I.big)
theorem dcomp_core (t : Bool) (hu : X.A.units + 1 < cLine) (hc : X.calm = true) (hN : X.N.Nodup) {pins : List (Addr × Obj)} {s : Shared} {σ : L2.St} {H : Hp} (I : L2.Inv X pins σ H s) (hi : PId X tg iter it) (ok : BlkOk X.N X.env.scope scope own) (hin : tgIn g (own.map (·.2)))
    (hg : BlkX X scope fun Y => PG Y tg (tTg X.K g)) (ht : BlkX X scope fun Y => PTs Y ifs (tT X.K tt)) (hk : BlkX X scope fun Y => PE Y kx (tX X.K fk)) (hv : BlkX X scope fun Y => PE Y vx (tX X.K fv)) (hs : ∀ x, foldedSetIterable iter X.env x = pure x)
    {B : Bs} {F : Hp} {r : Ro} {m : Mu} {Q : QX} (S : Sb X.K B F r m σ H) (w : it r m fun ds m1 => dcompL g (own.map (·.2)) tt (dEl fk fv) r ds (dK0 t) m1 fun acc m2 => Q (.o acc) m2)
    {use : Option (Value → Sem Unit)} {Qf : Value → Shared → Prop} {pos' : Pos}
    (fin : ∀ D C s' mm H', L2.Inv X pins σ H' s' → PoX X.K F m H Q (.ref D) H' → s'.heap.Ns C mm → FpOk X pins H' C → compPost (model X.prog X.w) X.A X.xe use Qf (.ref D) C (.ok .next) s') :
    wpAny (model X.prog X.w) X.A (comprehension (.DictComp kx vx [⟨tg, iter, ifs, 0⟩] scope pos) scope X.env pos' newDict false (eval iter X.env) use) Qf X.xe s := by
  have cells : ∀ y ∈ scope.names, y.2 = .free → ∃ c, X.env.cells.lookup y.1 = some c := fun y hy e => I.ok.has _ (ok.free y hy e)
  refine wpAny_comprehension_free (use := use) rfl hs (closure_ok cells) ok.kind (fun y hy e => (ok.uniq y hy).trans (congrArg some e)) ?_
  refine thn (hi.run pins s σ H (PoI X.K F m H fun ds m1 => dcompL g (own.map (·.2)) tt (dEl fk fv) r ds (dK0 t) m1 fun acc m2 => Q (.o acc) m2) I ⟨B, F, r, m, _, S, w, fun _ _ z => z⟩) fun xv sA walk => thn walk fun itv sB got => ?_
  obtain ⟨itr, fp, tn, J, HB, rfl, IB, T, tB0, fB, FB, mB, ds, EB, MB, WB, wB⟩ := got
  have SB := S.go EB MB
  refine wpAny_newObj_type (newEnv_comp ?_)
  -- the new dict, at D
  have dN : HB sB.heap.objs.size = none := IB.hok.fresh (Nat.le_refl _)
  have IC := dlaid IB t
  generalize eD : sB.heap.objs.size = D at dN IC ⊢
  generalize eC : ({ sB with heap := sB.heap.push { cls := .type "dict", data := .dict #[] } } : Shared) = sC at IC ⊢
  have hC : sC.heap = sB.heap.push { cls := .type "dict", data := .dict #[] } := by rw [← eC]
  have fC : ∀ b ∈ fp, FpOk X pins (upd HB D (hoK t)) b ∧ b < sC.heap.objs.size := fun b hb => by
    obtain ⟨o, e, _⟩ := T.obj _ _ tB0 b hb
    have lt : b < sB.heap.objs.size := Heap.lt_size e
    have ne : b ≠ D := fun z => absurd lt (by rw [z, eD]; exact Nat.lt_irrefl _)
    exact ⟨⟨by rw [upd_ne ne]; exact (fB b hb).1, (fB b hb).2⟩, by rw [hC, Heap.size_push]; exact Nat.lt_succ_of_lt lt⟩
  have tC0 : tn 0 sC.heap := T.keep _ _ _ tB0 fun b _ o e => hC ▸ Heap.get?_push_of_some _ e
  have ID := block_start IC ok hN fC
  generalize eE : upd HB D (hoK t) = HC at IC ID fC ⊢
  have MC : Mem X.K FB mB HC := eE ▸ MB.newH dN _
  have EC : Ext FB mB HB FB mB HC := eE ▸ .newH dN _
  have AC : Acc X.K FB mB HC D (dK0 t) := ⟨MB.noF dN, MB.noM dN, eE ▸ own_dK0 t⟩
  have bg := hg sC HC sC.heap.objs.size (bCells X scope sC) fp
  have bt := ht sC HC sC.heap.objs.size (bCells X scope sC) fp
  have bk := hk sC HC sC.heap.objs.size (bCells X scope sC) fp
  have bv := hv sC HC sC.heap.objs.size (bCells X scope sC) fp
  change codeAny _ _ (.compStart _ 0 (.ref itr) (.ref D) (bEnv X scope sC)) (compPost _ X.A X.xe use Qf (.ref D) sC.heap.objs.size) { sC with heap := pushCells (sC.heap.push { cls := .type "dict", data := .dict #[] }) scope.names }
  change L2.Inv (bCx X scope sC HC fp) [] _ HC _ at ID
  generalize eF : ({ sC with heap := pushCells (sC.heap.push { cls := .type "dict", data := .dict #[] }) scope.names } : Shared) = sD at ID ⊢
  have tD0 : tn 0 sD.heap := T.keep _ _ _ tC0 fun b _ o e => eF ▸ pushCells_keeps _ _ _ _ (Heap.get?_push_of_some _ e)
  have room : ∀ {σ' H' s'}, L2.Inv (bCx X scope sC HC fp) [] σ' H' s' → (∀ b ∈ fp, H' b = none) → ∀ b ∈ fp, FpOk (bCx X scope sC HC fp) [] H' b := fun {σ' H' s'} J' n b hb =>
    have z := J'.ok.exf b hb
    ⟨n b hb, z.1, J'.ok.exfs b hb, .inl hb, z.2, fun p hp => by cases hp⟩
  have SC := SB.go EC MC
  -- the loop: what is left to walk, what was gathered
  let Rest : Nat → Pd.D → Mu → Prop := fun i acc m2 => dcompL g (own.map (·.2)) tt (dEl fk fv) r (ds.drop i) acc m2 fun acc m2 => Q (.o acc) m2
  have loop : codeAny (model X.prog X.w) X.A (.compLoop (.DictComp kx vx [⟨tg, iter, ifs, 0⟩] scope pos) 0 (.ref itr) (.ref D) (bEnv X scope sC)) (compPost (model X.prog X.w) X.A X.xe use Qf (.ref D) sC.heap.objs.size) sD := by
    refine compLoop_anyD (fun n s' => ∃ i H' F2 m2 acc, n = ds.length - i ∧ i ≤ ds.length ∧ tn i s'.heap ∧ (∀ b ∈ fp, H' b = none) ∧ L2.Inv (bCx X scope sC HC fp) [] (L2.wipe σ (own.map (·.2))) H' s' ∧ Ext FB mB HB F2 m2 H' ∧ Mem X.K F2 m2 H' ∧ Acc X.K F2 m2 H' D acc ∧ Rest i acc m2) ?_ ds.length
      ⟨0, HC, FB, mB, dK0 t, by simp, Nat.zero_le _, tD0, fun b hb => (fC b hb).1.1, ID, EC, MC, AC, by simpa [Rest] using wB⟩
    rintro n s1 ⟨i, H1, F1, m1, acc, rfl, hi1, t1, n1, I1, E1, M1, A1, w1⟩
    by_cases hlt : i < ds.length
    · have ed : ds.drop i = ds[i] :: ds.drop (i + 1) := List.drop_eq_getElem_cons hlt
      have w1 : dcompL g (own.map (·.2)) tt (dEl fk fv) r (ds.drop i) acc m1 fun acc m2 => Q (.o acc) m2 := w1
      rw [ed] at w1
      refine thnF (T.item (bCx X scope sC HC fp) rfl rfl rfl hc i [] s1 _ H1 (fun _ _ => False) I1 (room I1 n1) t1 (WB.go F1 m1 H1 i M1 E1.le hlt)) fun got s2 ⟨u, eu, h2⟩ => ?_
      subst eu
      refine thnF h2 fun _ s3 ⟨x, H3, I3, r3, y3, t3, n3⟩ => ?_
      obtain ⟨F3, E3, M3, R3⟩ := WB.yld F1 m1 H1 i x H3 ds[i] M1 E1.le (List.getElem?_eq_getElem hlt) y3
      have E13 := E1.trans E3 M1
      have S3 := SB.go E13 M3
      -- the end of the turn
      have ends : ∀ {σ9 s9 H9 F9 m9 acc9}, σ9.length = σ.length → L2.wipe σ9 (own.map (·.2)) = L2.wipe σ (own.map (·.2)) → L2.Inv (bCx X scope sC HC fp) ([] ++ pinsAt fp s3.heap) σ9 H9 s9 → Ext FB mB HB F9 m9 H9 → Mem X.K F9 m9 H9 → Acc X.K F9 m9 H9 D acc9 → Rest (i + 1) acc9 m9 →
          ∃ n', n' < ds.length - i ∧ ∃ i H' F2 m2 acc, n' = ds.length - i ∧ i ≤ ds.length ∧ tn i s9.heap ∧ (∀ b ∈ fp, H' b = none) ∧ L2.Inv (bCx X scope sC HC fp) [] (L2.wipe σ (own.map (·.2))) H' s9 ∧ Ext FB mB HB F2 m2 H' ∧ Mem X.K F2 m2 H' ∧ Acc X.K F2 m2 H' D acc ∧ Rest i acc m2 := by
        intro σ9 s9 H9 F9 m9 acc9 l9 w9 I9 E9 M9 A9 R9
        have old : ∀ b ∈ fp, ∀ o, s3.heap.get? b = some o → s9.heap.get? b = some o ∧ H9 b = none := fun b hb o e =>
          have z := I9.pin (b, o) (List.mem_append_right _ (List.mem_append_right _ (mem_pinsAt hb e)))
          ⟨z.1, z.2.1⟩
        refine ⟨ds.length - (i + 1), by omega, i + 1, H9, F9, m9, acc9, rfl, hlt, T.keep _ _ _ t3 fun b hb o e => (old b hb o e).1, fun b hb => ?_, (I9.unpinned (pins := [])).weak (by rw [wipe_len]; exact l9.symm) fun j v e => ?_, E9, M9, A9, R9⟩
        · obtain ⟨o, e, _⟩ := T.obj _ _ t3 b hb
          exact (old b hb o e).2
        · rw [← w9] at e
          exact (wipe_some e).1
      have store : tTg X.K g x (L2.wipe σ (own.map (·.2))) H3 fun σ4 H4 => H4 = H3 ∧ L2.wipe σ4 (own.map (·.2)) = L2.wipe σ (own.map (·.2)) ∧ ∃ r4, Sb X.K B F3 r4 m1 σ4 H3 ∧ tt r4 m1 fun b m5 => if b = true then dEl fk fv r4 m5 fun kd vd m6 => ∃ acc2, dlen acc < sizeLine ∧ dput acc kd vd = some acc2 ∧ Rest (i + 1) acc2 m6 else Rest (i + 1) acc m5 :=
        ⟨B, F3, _, m1, ds[i], _, S3.wipe (own.map (·.2)), R3, w1, fun r4 σ4 S4 w4 _ hw => ⟨rfl, by rw [hw _ hin, wipe_wipe], r4, S4, w4⟩⟩
      have I3' := I3.pinned (room I3 n3) (T.obj _ _ t3)
      refine thnF (bg.run _ s3 _ H3 x u _ I3' r3 store) fun _ s4 ⟨σ4, H4, I4, eH, hw4, r4, S4, w4⟩ => ?_
      subst eH
      have l4 : σ4.length = σ.length := by rw [← wipe_len σ4 (own.map (·.2)), hw4, wipe_len]
      refine thnF (bt.run _ s4 σ4 H4 _ I4 ⟨B, F3, r4, m1, _, S4, w4, fun b H' z => z⟩) fun b s5 ⟨H5, I5, F5, m5, E5, M5, w5⟩ => ?_
      have A5 := (A1.go E3).go E5
      have E15 := E13.trans E5 M3
      cases b with
      | false => exact ends l4 hw4 I5 E15 M5 A5 w5
      | true =>
        refine thnF (bk.run _ s5 σ4 H5 _ I5 (show tX X.K fk σ4 H5 _ from ⟨B, F5, r4, m5, _, S4.go E5 M5, w5, fun v H' z => z⟩)) fun kv s6 ⟨kV', H6, I6, r6, F6, m6, krv, E6, M6, R6, w6⟩ => ?_
        obtain ⟨F6', m6', kd, E6', M6', R6', w6'⟩ := PoX.frz (Q := fun rv m' => rv = krv ∧ m' = m6) (Q' := fun d m' => d = krv.toD ∧ m' = m6) ⟨F6, m6, krv, E6, M6, R6, rfl, rfl⟩ fun rv m' ⟨e1, e2⟩ => ⟨by rw [e1], e2⟩
        obtain ⟨rfl, rfl⟩ := w6'
        have S6 := (S4.go E5 M5).go E6' M6'
        refine thnF (bv.run _ s6 σ4 H6 _ I6 (show tX X.K fv σ4 H6 _ from ⟨B, F6', r4, m6', _, S6, w6, fun v H' z => z⟩)) fun vv s7 ⟨vV', H7, I7, r7, F7, m7, vrv, E7, M7, R7, w7⟩ => ?_
        obtain ⟨F7', m7', vd, E7', M7', R7', w7'⟩ := PoX.frz (Q := fun rv m' => rv = vrv ∧ m' = m7) (Q' := fun d m' => d = vrv.toD ∧ m' = m7) ⟨F7, m7, vrv, E7, M7, R7, rfl, rfl⟩ fun rv m' ⟨e1, e2⟩ => ⟨by rw [e1], e2⟩
        obtain ⟨rfl, rfl⟩ := w7'
        obtain ⟨acc2, hz, ep, w8⟩ := w7
        have A7 := (A5.go E6').go E7'
        have E17 := (E15.trans E6' M5).trans E7' M6'
        obtain ⟨o, dp, E8, M8, A8⟩ := acc_put E17 M7' A7 dN hz (R6'.mono E7'.le) R7' ep
        exact dset_ok (X := bCx X scope sC HC fp) hu I7 dp r6 r7 fun s8 I8 => ends l4 hw4 I8 E8 M8 A8 w8
    · have ei : i = ds.length := by omega
      subst ei
      have w1 : dcompL g (own.map (·.2)) tt (dEl fk fv) r (ds.drop ds.length) acc m1 fun acc m2 => Q (.o acc) m2 := w1
      rw [List.drop_length] at w1
      refine thnF (T.done (bCx X scope sC HC fp) rfl rfl rfl hc _ [] s1 _ H1 (fun _ _ => False) I1 (room I1 n1) t1 (WB.stop F1 m1 H1 _ M1 E1.le (Nat.le_refl _))) fun got s2 ⟨eg, I2⟩ => ?_
      subst eg
      have back : L2.Inv X pins σ H1 s2 := IC.call' (ch := fp) I2.os I2.base I2.hok I2.bare fun b hb =>
        have z := (fC b hb).1.2
        ⟨z.2.2.1, z.1, z.2.2.2.1, z.2.2.2.2⟩
      have nC : H1 sC.heap.objs.size = none := I2.free
      obtain ⟨mm, hn, _⟩ := I2.loc
      exact fin D sC.heap.objs.size s2 mm H1 back ⟨F1, m1, .o acc, EB.trans E1 MB, M1, ⟨D, rfl, A1.1, A1.2.1, EB.none dN, A1.2.2⟩, w1⟩ hn (IC.fpOk (Nat.le_refl _) nC)
  exact codeAny_compStart_dict loop (T.self X.A 0 _ _ _ tD0 loop)
def dcompX (t : Bool) (g : Tg) (vs : List Nat) (it : FL) (tt : FT) (fk fv : FX) : FX := fun r m Q => it r m fun ds m1 => dcompL g vs tt (dEl fk fv) r ds (dK0 t) m1 fun acc m2 => Q (.o acc) m2
theorem px_dcomp (t : Bool) (hu : X.A.units + 1 < cLine) (hc : X.calm = true) (hN : X.N.Nodup) (hi : PId X tg iter it) (ok : BlkOk X.N X.env.scope scope own) (hin : tgIn g (own.map (·.2)))
    (hg : BlkX X scope fun Y => PG Y tg (tTg X.K g)) (ht : BlkX X scope fun Y => PTs Y ifs (tT X.K tt)) (hk : BlkX X scope fun Y => PE Y kx (tX X.K fk)) (hv : BlkX X scope fun Y => PE Y vx (tX X.K fv)) (hs : ∀ x, foldedSetIterable iter X.env x = pure x) :
    PX X (.DictComp kx vx [⟨tg, iter, ifs, 0⟩] scope pos) (dcompX t g (own.map (·.2)) it tt fk fv) := by
  refine ⟨fun pins s σ H Qv I ⟨B, F, r, m, Q, S, w, k⟩ => ?_⟩
  rw [arm_eval_DictComp]
  refine dcomp_core t hu hc hN I hi ok hin hg ht hk hv hs S w fun D C s' mm H' I' p hn f => ⟨mm, hn, fun h2 same => ?_⟩
  obtain ⟨f0, f1, _, f3, f4, f5⟩ := f
  exact ⟨.ref D, H', I'.turned (t' := s'.toks) (fun b o hb e => (same.2 b hb).trans e) f0 f1 f3 f4 f5, rfl, k _ _ p⟩
theorem sw_casesD {gs : List Comprehension} {py : Pos} {y : Str} {l : Nat} {env : Env} :
    (swapsWith (.DictComp kx vx gs scope pos) (some (.Name y py)) l env = pure true ∧ env.scope.names.lookup y = some .local) ∨ swapsWith (.DictComp kx vx gs scope pos) (some (.Name y py)) l env = pure false := by
  have e : swapsWith (.DictComp kx vx gs scope pos) (some (.Name y py)) l env = pure (env.blockKind == .function && env.kindOf y == some .local && py.line == pos.line && !(scope.names.any fun (n, k) => n == y && (k == .local || k == .cell))) := rfl
  rw [e]
  cases h : (env.blockKind == .function && env.kindOf y == some .local && py.line == pos.line && !(scope.names.any fun (n, k) => n == y && (k == .local || k == .cell))) with
  | false => exact .inr rfl
  | true =>
    simp only [Bool.and_eq_true, beq_iff_eq] at h
    exact .inl ⟨rfl, h.1.1.2⟩
theorem ps_setDc (t : Bool) {i : Nat} {y : Str} {py spos : Pos} (hu : X.A.units + 1 < cLine) (hc : X.calm = true) (hN : X.N.Nodup) (hy : X.N[i]? = some y) (hyl : X.env.scope.names.lookup y = some .local)
    (hsw : swapsWith (.DictComp kx vx [⟨tg, iter, ifs, 0⟩] scope pos) (some (.Name y py)) spos.line X.env = pure true) (hi : PId X tg iter it) (ok : BlkOk X.N X.env.scope scope own) (hin : tgIn g (own.map (·.2)))
    (hg : BlkX X scope fun Y => PG Y tg (tTg X.K g)) (ht : BlkX X scope fun Y => PTs Y ifs (tT X.K tt)) (hk : BlkX X scope fun Y => PE Y kx (tX X.K fk)) (hv : BlkX X scope fun Y => PE Y vx (tX X.K fv)) (hs : ∀ x, foldedSetIterable iter X.env x = pure x) :
    PS X (.Assign [.Name y py] (.DictComp kx vx [⟨tg, iter, ifs, 0⟩] scope pos) spos) (tAsg (tX X.K (dcompX t g (own.map (·.2)) it tt fk fv)) (gName i)) := by
  refine ⟨fun pins s σ H D I ⟨B, F, r, m, Q, S, w, k⟩ => ?_⟩
  rw [exec_Assign_Name_used _ _ _ _ hsw]
  refine wpAny_bind (wpAny_standAt (wpAny_bind ?_))
  change wpAny _ X.A (comprehension (.DictComp kx vx [⟨tg, iter, ifs, 0⟩] scope pos) scope X.env (firstIterPos [⟨tg, iter, ifs, 0⟩] pos) newDict false (eval iter X.env) (some (assign (.Name y py) X.env)) >>= fun _ => pure ()) _ _ s
  refine wpAny_bind (thn (dcomp_core (Qf := fun _ s' => SP X pins D .next s') t hu hc hN I hi ok hin hg ht hk hv hs S w fun L C s' mm H' I' p hn f => ?_) fun _ s' hq => wpAny_pure (wpAny_pure hq))
  refine wpAny_assign_Name (store_ok2 (v := V.ref L) I' hN hy (.inl hyl) rfl (fun s2 I2 ⟨a, sb, ha⟩ => ?_) (.inr hyl))
  obtain ⟨f0, f1, _, f3, f4, f5⟩ := f
  have other : C ≠ a := fun e => ha.elim (fun z => f1 (e.trans z)) fun z => f4 y a z e.symm
  exact ⟨mm, hn.sameBut sb other, fun h3 same => ⟨_, H', I2.turned (t' := s2.toks) (fun b o hb e => (same.2 b hb).trans e) f0 f1 f3 f4 f5, k _ _ p⟩⟩
end
end Pd
/-! Pd: does a text say what a term of X, S says? A check by computation, and that it is sound. -/
namespace Pd
open PySem PySem.Spec PyProof.Rows L2
/-! ### shapes of expressions -/
def notStar : Expr → Bool
  | .Starred .. => false
  | _ => true
def notSet : Expr → Bool
  | .Set .. => false
  | _ => true
def notComp : Expr → Bool
  | .ListComp .. | .SetComp .. | .DictComp .. => false
  | _ => true
def notSlice : Expr → Bool
  | .Slice .. => false
  | _ => true
/-- a test by its value -/
def plainT : Expr → Bool
  | .UnaryOp .Not _ _ | .BoolOp .. | .IfExp .. | .Compare .. => false
  | _ => true
theorem star_cons {e : Expr} {es : List Expr} {env : Env} (h : notStar e = true) : starEach (e :: es) env = (false, eval e env) :: starEach es env := by
  cases e <;> first | rfl | cases h
theorem star_any {pos : Pos} {env : Env} : ∀ {es : List Expr}, es.all notStar = true → (backTo pos (starEach es env)).any (·.1) = false
  | [], _ => rfl
  | e :: es, h => by
    rw [List.all_cons, Bool.and_eq_true] at h
    rw [star_cons h.1]
    exact star_any h.2
theorem star_all {pos : Pos} {env : Env} : ∀ {es : List Expr}, es.all notStar = true → (backTo pos (starEach es env)).all (fun x => !x.1) = true
  | [], _ => rfl
  | e :: es, h => by
    rw [List.all_cons, Bool.and_eq_true] at h
    rw [star_cons h.1]
    exact star_all h.2
theorem set_pure {e : Expr} {env : Env} (h : notSet e = true) : ∀ x, foldedSetIterable e env x = pure x := by
  intro x
  cases e <;> first | rfl | cases h
theorem mark_no {op : CmpOp} {e : Expr} (h : notSet e = true) : behindInMarks op e = false := by
  cases e <;> first | rfl | cases h
theorem mark_last {op op' : CmpOp} {b e : Expr} (h : notSet e = true) : lastMarks [op, op'] [b, e] = false := mark_no h
theorem swap_no {e : Expr} {t : Option Expr} {l : Nat} {env : Env} (h : notComp e = true) : swapsWith e t l env = pure false := by
  cases e <;> first | rfl | cases h
theorem plain_ix {e : Expr} (h : notSlice e = true) : PlainIx e := by
  intro o i
  cases e <;> first | rfl | cases h
theorem plain_t {e : Expr} {env : Env} (h : plainT e = true) : ∀ whole, isTrue e env whole = (do let v ← whole; standAt e.pos; holding [v] (truthy v)) := by
  intro whole
  cases e with
  | UnaryOp op x p => cases op <;> first | rfl | cases h
  | _ => first | rfl | cases h
/-! ### contexts -/
structure Ct where
  N : List Str
  sc : Scope
  fn : Str → Bool
structure Tb where
  fns : List (Str × Nat)
  free : List Str
  cons : List Str
def Ct.blk (c : Ct) (scope : Scope) : Ct := ⟨c.N, relS scope c.sc, fun x => scope.names.lookup x == some .cell⟩
def Ct.gl (c : Ct) (x : Str) : Bool := c.sc.names.lookup x == some .globalImplicit && !(x == ("__debug__" : Str)) && !(x == ("__name__" : Str))
def Ct.vis (c : Ct) (x : Str) : Bool := (c.sc.names.lookup x == some .local || c.sc.names.lookup x == some .cell || c.sc.names.lookup x == some .free) && !(x == ("__debug__" : Str)) && !(x == ("__classdict__" : Str))
def Ct.st (c : Ct) (x : Str) : Bool := c.sc.names.lookup x == some .local || (c.sc.names.lookup x == some .cell && c.fn x)
structure Cok (T : Tb) (cal : Nat → List D → Mu → QX → Prop) (cs : List D) (c : Ct) (X : Cx) : Prop where
  N : X.N = c.N
  nd : c.N.Nodup
  sc : X.env.scope = c.sc
  kind : c.sc.kind = .function
  fn : X.fn = c.fn
  calm : X.calm = true
  units : X.A.units + 66 < cLine
  free : ∀ x ∈ T.free, X.mg x = none
  con : ∀ (i : Nat) x d, T.cons[i]? = some x → cs[i]? = some d → ∃ v u, X.mg x = some u ∧ RelV v u ∧ ∀ F, Rep X.K F d v
  call : ∀ (i : Nat) x np, T.fns[i]? = some (x, np) → ∃ a fd ps n, X.mg x = some (.ref a) ∧ PySem.W.keepIn X.K (.ref a) = true ∧ Binds X.K fd ps [] ∧ FnOk X.prog X.w X.K X.mg X.base CX0 n a fd ps (spC X.K (cal i)) ∧ Room n X.A
section
variable {T : Tb} {cal : Nat → List D → Mu → QX → Prop} {cs : List D} {c : Ct} {X : Cx}
theorem Cok.gl (C : Cok T cal cs c X) {x : Str} (h : c.gl x = true) : Gl X x ∧ (x == ("__debug__" : Str)) = false ∧ x ≠ "__name__" := by
  unfold Ct.gl at h
  simp only [Bool.and_eq_true, beq_iff_eq, Bool.not_eq_true'] at h
  refine ⟨?_, h.1.2, fun z => ?_⟩
  · show X.env.scope.names.lookup x = _
    rw [C.sc]; exact h.1.1
  · have := h.2
    rw [z] at this
    simp at this
theorem Cok.var (C : Cok T cal cs c X) {x : Str} {i : Nat} {p : Pos} (hi : c.N[i]? = some x) (h : c.vis x = true) : PE X (.Name x p) (tVar i) := by
  unfold Ct.vis at h
  simp only [Bool.and_eq_true, Bool.or_eq_true, beq_iff_eq, Bool.not_eq_true'] at h
  refine pe_var (by rw [C.N]; exact hi) ?_ h.1.2 h.2
  unfold Vis
  rw [C.sc]
  rcases h.1.1 with (h | h) | h
  · exact .inl h
  · exact .inr (.inl h)
  · exact .inr (.inr h)
theorem Cok.st (C : Cok T cal cs c X) {x : Str} (h : c.st x = true) : L2.Loc X.env.scope x ∧ (X.fn x = true ∨ X.env.scope.names.lookup x = some .local) := by
  unfold Ct.st at h
  simp only [Bool.and_eq_true, Bool.or_eq_true, beq_iff_eq] at h
  unfold L2.Loc
  rw [C.sc, C.fn]
  rcases h with h | ⟨h, q⟩
  · exact ⟨.inl h, .inr h⟩
  · exact ⟨.inr h, .inl q⟩
theorem Cok.tg (C : Cok T cal cs c X) {x : Str} {i : Nat} {p : Pos} (hi : c.N[i]? = some x) (h : c.st x = true) : PG X (.Name x p) (gName i) :=
  pg_name (by rw [C.N]; exact C.nd) (by rw [C.N]; exact hi) (C.st h).1 (C.st h).2
theorem Cok.blk (C : Cok T cal cs c X) {scope : Scope} (hk : scope.kind = .function) (s : Shared) (H : Hp) (Cl : Addr) (cl : List (Str × Addr)) (fp : List Addr) : Cok T cal cs (c.blk scope) (X.blk s H scope (compEnvC scope cl Cl X.env) fp) where
  N := C.N
  nd := C.nd
  sc := by
    show relS scope X.env.scope = relS scope c.sc
    rw [C.sc]
  kind := hk
  fn := rfl
  calm := C.calm
  units := C.units
  free := C.free
  con := C.con
  call := C.call
end

/-! ### the check -/
def strOf : Str → Str := id
def bopE : Operator → Option Bop
  | .Add => some .add | .Sub => some .sub | .Mult => some .mul | .FloorDiv => some .fdiv | .Mod => some .mod | .Pow => some .pow | .LShift => some .shl | .BitAnd => some .band
  | _ => none
theorem bopE_of {op : Operator} {o : Bop} (h : bopE op = some o) : op = bopOf o := by
  cases op <;> simp [bopE] at h <;> subst h <;> rfl
def copE : CmpOp → Option Cop
  | .Lt => some .lt | .LtE => some .le | .Gt => some .gt | .GtE => some .ge
  | _ => none
theorem copE_of {op : CmpOp} {o : Cop} (h : copE op = some o) : op = copOf o := by
  cases op <;> simp [copE] at h <;> subst h <;> rfl
def eqE : CmpOp → Option Bool
  | .Eq => some false | .NotEq => some true
  | _ => none
def isE : CmpOp → Option Bool
  | .Is => some false | .IsNot => some true
  | _ => none
def inE : CmpOp → Option Bool
  | .In => some false | .NotIn => some true
  | _ => none
def isT : Expr → Bool
  | .Tuple .. => true
  | _ => false
def needTup : X → Bool
  | .zip .. | .enu .. => true
  | _ => false
def biName : Bi → Option Str
  | .len => some "len" | .abs => some "abs" | .max2 => some "max" | .min2 => some "min" | .maxl => some "max" | .minl => some "min" | .sum => some "sum" | .all => some "all" | .any => some "any"
  | .list => some "list" | .tuple => some "tuple" | .int => some "int" | .str => some "str" | .sorted => some "sorted"
  | _ => none
def tyName : Ty → Str
  | .int => "int" | .str => "str" | .list => "list" | .tuple => "tuple" | .dict => "dict" | .bool => "bool"
def ckBlt (T : Tb) (c : Ct) (x : Str) : Bool := c.gl x && T.free.contains x
def ckTgs (c : Ct) : List Nat → List Expr → Bool
  | [], [] => true
  | i :: is, .Name x _ :: es => c.N[i]? == some x && c.st x && ckTgs c is es
  | _, _ => false
def ckTg (c : Ct) : Tg → Expr → Bool
  | .name i, .Name x _ => c.N[i]? == some x && c.st x
  | .tup is, .Tuple es _ _ => ckTgs c is es
  | _, _ => false
def inTg (vs : List Nat) : Tg → Bool
  | .name i => vs.contains i
  | .tup is => is.all vs.contains
def ownL (c : Ct) (vs : List Nat) : List (Str × Nat) := vs.map fun i => (c.N.getD i default, i)
def ckBlk (c : Ct) (scope : Scope) (vs : List Nat) : Bool :=
  scope.kind == .function && scope.names.all (fun y => scope.names.lookup y.1 == some y.2) && vs.all (fun i => decide (i < c.N.length))
  && scope.names.all (fun y => !(y.2 == .free) || c.sc.names.lookup y.1 == some .cell || c.sc.names.lookup y.1 == some .free)
  && scope.names.all (fun y => !(y.2 == .local || y.2 == .cell) || ((ownL c vs).map (·.1)).contains y.1 || !c.N.contains y.1)
/-- what is left of a and b and .. -/
def tailB (op : BoolOp) (e : Expr) (rest : List Expr) (pos : Pos) : Expr := match rest with
  | [] => e
  | _ => .BoolOp op (e :: rest) pos
mutual
def ckX (T : Tb) : X → Ct → Expr → Bool
  | .var i, c, e => match e with
    | .Name x _ => c.N[i]? == some x && c.vis x
    | _ => false
  | .con i, c, e => match e with
    | .Name x _ => T.cons[i]? == some x && c.gl x
    | _ => false
  | .int i, _, e => match e with
    | .Constant (.int j) _ _ => i == j
    | _ => false
  | .str i, _, e => match e with
    | .Constant (.str j) _ _ => i == j
    | _ => false
  | .bl i, _, e => match e with
    | .Constant (.bool j) _ _ => i == j
    | _ => false
  | .non, _, e => match e with
    | .Constant .none _ _ => true
    | _ => false
  | .tup xs, c, e => match e with
    | .Tuple es _ _ => ckL T xs c es
    | _ => false
  | .lst xs, c, e => match e with
    | .List es _ => ckL T xs c es
    | _ => false
  | .bin o a b, c, e => match e with
    | .BinOp ea op eb _ => bopE op == some o && ckX T a c ea && ckX T b c eb
    | _ => false
  | .neg a, c, e => match e with
    | .UnaryOp .USub ea _ => ckX T a c ea
    | _ => false
  | .cmp o a b, c, e => match e with
    | .Compare ea [op] [eb] _ => copE op == some o && notSet eb && ckX T a c ea && ckX T b c eb
    | _ => false
  | .chain o1 o2 a b d, c, e => match e with
    | .Compare ea [op1, op2] [eb, ed] _ => copE op1 == some o1 && copE op2 == some o2 && notSet ed && ckX T a c ea && ckX T b c eb && ckX T d c ed
    | _ => false
  | .eq ne a b, c, e => match e with
    | .Compare ea [op] [eb] _ => eqE op == some ne && notSet eb && ckX T a c ea && ckX T b c eb
    | _ => false
  | .isN ne a, c, e => match e with
    | .Compare ea [op] [.Constant .none _ _] _ => isE op == some ne && ckX T a c ea
    | _ => false
  | .isB ne k a, c, e => match e with
    | .Compare ea [op] [.Constant (.bool k2) _ _] _ => isE op == some ne && k == k2 && ckX T a c ea
    | _ => false
  | .isin ne a b, c, e => match e with
    | .Compare ea [op] [eb] _ => inE op == some ne && notSet eb && ckX T a c ea && ckX T b c eb
    | _ => false
  | .and a b, c, e => match e with
    | .BoolOp .And (ea :: eb :: rest) pos => ckX T a c ea && ckX T b c (tailB .And eb rest pos)
    | _ => false
  | .or a b, c, e => match e with
    | .BoolOp .Or (ea :: eb :: rest) pos => ckX T a c ea && ckX T b c (tailB .Or eb rest pos)
    | _ => false
  | .not a, c, e => match e with
    | .UnaryOp .Not ea _ => ckX T a c ea
    | _ => false
  | .ite t a b, c, e => match e with
    | .IfExp et ea eb _ => ckX T t c et && ckX T a c ea && ckX T b c eb
    | _ => false
  | .call f xs, c, e => match e with
    | .Call (.Name x _) es [] _ => (T.fns[f]?.map (·.1)) == some x && c.gl x && ckL T xs c es
    | _ => false
  | .bi b xs, c, e => match e with
    | .Call (.Name x _) (e :: es) [] _ => biName b == some x && ckBlt T c x && ckL T xs c (e :: es)
    | _ => false
  | .isi t a, c, e => match e with
    | .Call (.Name x _) [ea, .Name y _] [] _ => x == ("isinstance" : Str) && y == tyName t && ckBlt T c x && ckBlt T c y && notStar ea && ckX T a c ea
    | _ => false
  | .ix a i, c, e => match e with
    | .Subscript ea ei _ => notSlice ei && ckX T a c ea && ckX T i c ei
    | _ => false
  | .sl a lo hi, c, e => match e with
    | .Subscript ea (.Slice l u none _) _ => ckX T a c ea && ckO T lo c l && ckO T hi c u
    | _ => false
  | .st k a, c, e => match e with
    | .Subscript ea (.Slice none none (some (.UnaryOp .USub (.Constant (.int 1) _ _) _)) _) _ => k == .rev && ckX T a c ea
    | _ => false
  | .comp g own it ifs elt, c, e => match e with
    | .ListComp ee [⟨tg, iter, es, 0⟩] scope _ => ckX T it c iter && (!needTup it || isT tg) && notSet iter && ckBlk c scope own && inTg own g && ckTg (c.blk scope) g tg && ckF T ifs (c.blk scope) es && ckX T elt (c.blk scope) ee
    | _ => false
  | .dcomp _ g own it ifs kx vx, c, e => match e with
    | .DictComp ke ve [⟨tg, iter, es, 0⟩] scope _ => ckX T it c iter && (!needTup it || isT tg) && notSet iter && ckBlk c scope own && inTg own g && ckTg (c.blk scope) g tg && ckF T ifs (c.blk scope) es && ckX T kx (c.blk scope) ke && ckX T vx (c.blk scope) ve
    | _ => false
  | .dict0 _, _, e => match e with
    | .Dict [] [] _ => true
    | _ => false
  | .rng xs, c, e => match e with
    | .Call (.Name x _) es [] _ => x == ("range" : Str) && ckBlt T c x && decide (1 ≤ es.length) && decide (es.length ≤ 3) && ckL T xs c es
    | _ => false
  | .enu a, c, e => match e with
    | .Call (.Name x _) [ea] [] _ => x == ("enumerate" : Str) && ckBlt T c x && notStar ea && ckX T a c ea
    | _ => false
  | _, _, _ => false
def ckL (T : Tb) : List X → Ct → List Expr → Bool
  | [], _, es => match es with
    | [] => true
    | _ => false
  | x :: xs, c, es => match es with
    | e :: es => notStar e && ckX T x c e && ckL T xs c es
    | _ => false
/-- a part of a slice -/
def ckO (T : Tb) : List X → Ct → Option Expr → Bool
  | [], _, e => match e with
    | none => true
    | _ => false
  | x :: xs, c, e => match e with
    | some e => xs.isEmpty && ckX T x c e
    | _ => false
/-- tests of a clause -/
def ckF (T : Tb) : List X → Ct → List Expr → Bool
  | [], _, es => match es with
    | [] => true
    | _ => false
  | x :: xs, c, es => match es with
    | [e] => xs.isEmpty && ckX T x c e
    | _ => false
end
end Pd
/-! Pd: the check of expressions is sound. -/
namespace Pd
open PySem PySem.Spec PyProof.Rows L2
structure Ok (X : Cx) (e : Expr) (v : Ev) (tt : Bool) : Prop where
  x : PX X e v.x
  t : PT X e (tT X.K v.t)
  h : PH X e v.h
  it : ∀ tg, (tt = true → isT tg = true) → PId X tg e v.it
  asg : ∀ (i : Nat) y py spos, X.N.Nodup → X.N[i]? = some y → L2.Loc X.env.scope y → (X.fn y = true ∨ X.env.scope.names.lookup y = some .local) →
    ∃ te, PS X (.Assign [.Name y py] e spos) (tAsg te (gName i)) ∧ ∀ σ H Qv, tX X.K v.x σ H Qv → te σ H Qv
section
variable {X : Cx} {e : Expr}
theorem asg_plain {f : FX} (hn : notComp e = true) (h : PX X e f) : ∀ (i : Nat) y py spos, X.N.Nodup → X.N[i]? = some y → L2.Loc X.env.scope y → (X.fn y = true ∨ X.env.scope.names.lookup y = some .local) →
    ∃ te, PS X (.Assign [.Name y py] e spos) (tAsg te (gName i)) ∧ ∀ σ H Qv, tX X.K f σ H Qv → te σ H Qv := fun i y py spos nd hi hl hf =>
  ⟨_, ps_set nd hi hl h (swap_no hn) hf, fun _ _ _ q => q⟩
theorem Ok.of {f : FX} (hp : plainT e = true) (hn : notComp e = true) (h : PX X e f) : Ok X e (Ev.of f) false :=
  ⟨h, pt_h (px_h h) (plain_t hp), px_h h, fun tg _ => pid_any h, asg_plain hn h⟩
theorem pid_false {tg : Expr} : PId X tg e (fun _ _ _ => False) := ⟨fun pins s σ H R I ⟨B, F, r, m, Q, S, w, k⟩ => w.elim⟩
theorem px_false : PX X e (fun _ _ _ => False) := ⟨fun pins s σ H R I ⟨B, F, r, m, Q, S, w, k⟩ => w.elim⟩
theorem ph_false : PH X e (fun _ _ _ => False) := ⟨fun pins s σ H R I ⟨B, F, r, m, Q, S, w, k⟩ => w.elim⟩
theorem pt_false : PT X e (tT X.K fun _ _ _ => False) := ⟨fun pins s σ H R I ⟨B, F, r, m, Q, S, w, k⟩ => w.elim⟩
theorem Ok.ofT {t : TE} {T : FT} (hn : notComp e = true) (hx : PE X e t) (ht : PT X e (tB t)) (k : ∀ σ H Qv, tX X.K (bl T) σ H Qv → t σ H Qv) : Ok X e (Ev.ofT T) false :=
  ⟨PEi hx k, PTi ht fun σ H Q q => pt_bool k q, px_h (f := bl T) (PEi hx k), fun tg _ => pid_false, asg_plain hn (PEi hx k)⟩
theorem Ok.only {f : FL} {tt : Bool} (hn : notComp e = true) (h : ∀ tg, (tt = true → isT tg = true) → PId X tg e f) : Ok X e (onlyIt f) tt :=
  ⟨px_false, pt_false, ph_false, h, asg_plain hn px_false⟩
theorem Ok.cmp {ea eb : Expr} {op : CmpOp} {pos : Pos} {a b : Ev} {f : D → D → (Bool → Prop) → Prop} {o : Bool} {o2 : Bool} (ho : OpR X (compareOp op) (rDat X.K fun x y Q => f x y fun k => Q (.d (.bl k)))) (hs : notSet eb = true) (ha : Ok X ea a o) (hb : Ok X eb b o2) :
    Ok X (.Compare ea [op] [eb] pos) (Ev.ofT (bin2T a b f)) false :=
  Ok.ofT rfl (pe_cmpR ho ha.h hb.h (mark_no hs)) (pt_cmpR ho ha.h hb.h (mark_no hs)) fun σ H Qv q =>
    two (rr := rDat X.K fun x y Q => f x y fun k => Q (.d (.bl k))) (a := a.h) (b := b.h) (f := fun x y Q => f x y fun k => Q (.d (.bl k))) (fun M hx hy w k => ⟨_, _, _, _, _, M, hx, hy, w, k⟩) q
end
section
variable {T : Tb} {cal : Nat → List D → Mu → QX → Prop} {cs : List D} {c : Ct} {X : Cx}
inductive OkL (cal : Nat → List D → Mu → QX → Prop) (cs : List D) (X : Cx) : List Expr → List Pd.X → Prop
  | nil : OkL cal cs X [] []
  | cons {e : Expr} {es : List Expr} {x : Pd.X} {xs : List Pd.X} : notStar e = true → Ok X e (ev cal cs x) (needTup x) → OkL cal cs X es xs → OkL cal cs X (e :: es) (x :: xs)
theorem OkL.ns {es : List Expr} {xs : List Pd.X} (h : OkL cal cs X es xs) : es.all notStar = true := by
  induction h with
  | nil => rfl
  | cons h1 _ _ ih => rw [List.all_cons, h1, ih]; rfl
theorem OkL.pal {es : List Expr} {xs : List Pd.X} (h : OkL cal cs X es xs) : PA X es (tL X.K (evs cal cs xs)) := by
  induction h with
  | nil => rw [evs]; exact pal_nil
  | cons h1 h2 _ ih => rw [evs]; exact pal_cons h2.x ih (star_cons h1)
theorem OkL.pag {es : List Expr} {xs : List Pd.X} (h : OkL cal cs X es xs) : PA X es (tG X.K (evh cal cs xs)) := by
  induction h with
  | nil => rw [evh]; exact pag_nil
  | cons h1 h2 _ ih => rw [evh]; exact pag_cons h2.h ih (star_cons h1)
theorem px_call (C : Cok T cal cs c X) {f : Nat} {x : Str} {es : List Expr} {p pos : Pos} {xs : List Pd.X} (hf : (T.fns[f]?.map (·.1)) = some x) (hg : c.gl x = true) (ha : OkL cal cs X es xs) :
    PX X (.Call (.Name x p) es [] pos) (fun r m Q => evs cal cs xs r m fun ds m1 => cal f ds m1 Q) := by
  cases h : T.fns[f]? with
  | none => rw [h] at hf; cases hf
  | some q =>
    obtain ⟨x', np⟩ := q
    rw [h] at hf
    cases hf
    obtain ⟨a, fd, ps, n, hm, hk, hb, F, hr⟩ := C.call f x' np h
    obtain ⟨g1, g2, _⟩ := C.gl hg
    cases ha with
    | nil =>
      refine PEi (pe_call0 F hr g1 hm hk hb .nil pass0 g2) fun σ H Qv q => ?_
      have q2 := call_ok (c := cal f) (t := evs cal cs []) q
      obtain ⟨B, F, r, m, Q, S, w, k⟩ := q2
      rw [evs] at w
      exact k [] H ⟨F, m, [], .refl, S.mem, .nil, w⟩
    | @cons e es x xs h1 h2 h3 =>
      exact PEi (pe_call F hr g1 hm hk hb .nil pass0 (OkL.cons h1 h2 h3).pal g2 (star_cons h1) (star_any h3.ns)) fun σ H Qv q => call_ok q
theorem ckBlt_of (C : Cok T cal cs c X) {x : Str} (h : ckBlt T c x = true) : Gl X x ∧ X.mg x = none ∧ (x == ("__debug__" : Str)) = false ∧ x ≠ "__name__" := by
  unfold ckBlt at h
  rw [Bool.and_eq_true] at h
  obtain ⟨g1, g2, g3⟩ := C.gl h.1
  exact ⟨g1, C.free x (List.contains_iff_mem.mp h.2), g2, g3⟩
theorem px_bi (C : Cok T cal cs c X) {b : Bi} {x : Str} {e : Expr} {es : List Expr} {p pos : Pos} {t : FG} (hb : biName b = some x) (hx : ckBlt T c x = true) (ha : PA X (e :: es) (tG X.K t)) (he : notStar e = true) (hs : es.all notStar = true) :
    PX X (.Call (.Name x p) (e :: es) [] pos) (biX t (biR b)) := by
  obtain ⟨g, hm, hd, hn⟩ := ckBlt_of C hx
  have h1 := star_cons (es := es) (env := X.env) he
  have h2 := star_any (pos := pos) (env := X.env) hs
  cases b <;> cases hb
  · exact px_biB cbi_len g hm boot_len ha hn hd h1 h2
  · exact px_biB cbi_abs g hm boot_abs ha hn hd h1 h2
  · exact px_biB (cbi_max2 C.calm) g hm boot_max ha hn hd h1 h2
  · exact px_biB (cbi_min2 C.calm) g hm boot_min ha hn hd h1 h2
  · exact px_biB (cbi_maxl C.calm) g hm boot_max ha hn hd h1 h2
  · exact px_biB (cbi_minl C.calm) g hm boot_min ha hn hd h1 h2
  · exact px_biB (cbi_sum C.calm) g hm boot_sum ha hn hd h1 h2
  · exact px_biB (cbi_all C.calm) g hm boot_all ha hn hd h1 h2
  · exact px_biB (cbi_any C.calm) g hm boot_any ha hn hd h1 h2
  · exact px_biT cbi_list g hm boot_list ha hn hd h1 h2
  · exact px_biT cbi_tuple g hm boot_tuple ha hn hd h1 h2
  · exact px_biT cbi_int g hm boot_int ha hn hd h1 h2
  · exact px_biT cbi_str g hm boot_str ha hn hd h1 h2
  · exact px_biB cbi_sorted g hm boot_sorted ha hn hd h1 h2
theorem pe_tyn (C : Cok T cal cs c X) {t : Ty} {y : Str} {p : Pos} (hy : y = tyName t) (hx : ckBlt T c y = true) : PE X (.Name y p) (tC (.ty (tyN t))) := by
  obtain ⟨g, hm, hd, hn⟩ := ckBlt_of C hx
  have hv : bootBuiltins y = some (.type (tyN t)) := by
    subst hy
    cases t
    · exact boot_int
    · exact boot_str
    · exact boot_list
    · exact boot_tuple
    · exact boot_dict
    · exact boot_bool
  exact ⟨fun pins s σ H Q I h => ld_blt I g hm hv ⟨.ty (tyN t), H, I, rfl, h⟩ hn hd⟩
theorem pgn_of (C : Cok T cal cs c X) : ∀ {is : List Nat} {es : List Expr}, ckTgs c is es = true → PGn X es is ∧ (assignEach es X.env).length = is.length ∧ (assignEach es X.env).findIdx? (·.1) = none
  | [], [], _ => ⟨.nil, rfl, rfl⟩
  | i :: is, e :: es, h => by
    cases e with
    | Name x p =>
      simp only [ckTgs, Bool.and_eq_true, beq_iff_eq] at h
      obtain ⟨h1, h2, h3⟩ := pgn_of C h.2
      refine ⟨.cons (C.tg h.1.1 h.1.2) rfl h1, ?_, ?_⟩
      · show (assignEach es X.env).length + 1 = _
        rw [h2]; rfl
      · show ((false, assign (.Name x p) X.env) :: assignEach es X.env).findIdx? (·.1) = none
        rw [List.findIdx?_cons, h3]
        rfl
    | _ => simp [ckTgs] at h
  | [], _ :: _, h => by simp [ckTgs] at h
  | _ :: _, [], h => by simp [ckTgs] at h
theorem tg_of (C : Cok T cal cs c X) {g : Tg} {e : Expr} (h : ckTg c g e = true) : PG X e (tTg X.K g) := by
  cases g with
  | name i =>
    cases e with
    | Name x p =>
      simp only [ckTg, Bool.and_eq_true, beq_iff_eq] at h
      exact pgd_name (C.tg h.1 h.2)
    | _ => simp [ckTg] at h
  | tup is =>
    cases e with
    | Tuple es k p =>
      obtain ⟨h1, h2, h3⟩ := pgn_of C (show ckTgs c is es = true from h)
      exact pgd_tup C.calm h1 h2 h3
    | _ => simp [ckTg] at h
theorem inTg_of {vs : List Nat} {g : Tg} (h : inTg vs g = true) : tgIn g vs := by
  cases g with
  | name i => exact List.contains_iff_mem.mp h
  | tup is =>
    intro i hi
    exact List.contains_iff_mem.mp (List.all_eq_true.mp h i hi)
theorem ownL_snd (c : Ct) (vs : List Nat) : (ownL c vs).map (·.2) = vs := by
  unfold ownL
  rw [List.map_map]
  exact List.map_id' vs
theorem blk_of (C : Cok T cal cs c X) {scope : Scope} {vs : List Nat} (h : ckBlk c scope vs = true) : BlkOk X.N X.env.scope scope (ownL c vs) := by
  unfold ckBlk at h
  simp only [Bool.and_eq_true, List.all_eq_true, beq_iff_eq, decide_eq_true_eq, Bool.or_eq_true, Bool.not_eq_true'] at h
  obtain ⟨⟨⟨⟨h1, h2⟩, h3⟩, h4⟩, h5⟩ := h
  refine ⟨h1, h2, fun p hp => ?_, fun y hy e => ?_, fun y hy e => ?_⟩
  · unfold ownL at hp
    obtain ⟨i, hi, e⟩ := List.mem_map.mp hp
    subst e
    have hl := h3 i hi
    rw [C.N]
    show c.N[i]? = some (c.N.getD i default)
    rw [List.getD_eq_getElem?_getD, List.getElem?_eq_getElem hl]
    rfl
  · rw [C.sc]
    rcases h4 y hy with (h | h) | h
    · rw [e] at h; cases h
    · exact .inl h
    · exact .inr h
  · rw [C.N]
    rcases h5 y hy with (h | h) | h
    · rcases e with e | e
      · rw [e] at h; cases h
      · rw [e] at h; cases h
    · exact .inl (List.contains_iff_mem.mp h)
    · refine .inr fun z => ?_
      rw [List.contains_iff_mem.mpr z] at h
      cases h
end
end Pd
/-! Pd: the check of expressions is sound: the whole. -/
namespace Pd
open PySem PySem.Spec PyProof.Rows L2
section
variable {X : Cx}
theorem sw_cases {elt : Expr} {gs : List Comprehension} {scope : Scope} {pos py : Pos} {y : Str} {l : Nat} {env : Env} :
    (swapsWith (.ListComp elt gs scope pos) (some (.Name y py)) l env = pure true ∧ env.scope.names.lookup y = some .local) ∨ swapsWith (.ListComp elt gs scope pos) (some (.Name y py)) l env = pure false := by
  have e : swapsWith (.ListComp elt gs scope pos) (some (.Name y py)) l env = pure (env.blockKind == .function && env.kindOf y == some .local && py.line == pos.line && !(scope.names.any fun (n, k) => n == y && (k == .local || k == .cell))) := rfl
  rw [e]
  cases h : (env.blockKind == .function && env.kindOf y == some .local && py.line == pos.line && !(scope.names.any fun (n, k) => n == y && (k == .local || k == .cell))) with
  | false => exact .inr rfl
  | true =>
    simp only [Bool.and_eq_true, beq_iff_eq] at h
    exact .inl ⟨rfl, h.1.1.2⟩
theorem Ok.comp {elt tg iter : Expr} {ifs : List Expr} {scope : Scope} {own : List (Str × Nat)} {pos : Pos} {g : Tg} {it : FL} {t : FT} {e : FX} (hc : X.calm = true) (hN : X.N.Nodup) (hi : PId X tg iter it) (ok : BlkOk X.N X.env.scope scope own) (hin : tgIn g (own.map (·.2)))
    (hg : BlkX X scope fun Y => PG Y tg (tTg X.K g)) (ht : BlkX X scope fun Y => PTs Y ifs (tT X.K t)) (he : BlkX X scope fun Y => PE Y elt (tX X.K e)) (hs : ∀ x, foldedSetIterable iter X.env x = pure x) :
    Ok X (.ListComp elt [⟨tg, iter, ifs, 0⟩] scope pos) (Ev.of (compX g (own.map (·.2)) it t (toD e))) false := by
  have h := px_comp (pos := pos) hc hN hi ok hin hg ht he hs
  refine ⟨h, pt_h (px_h h) (plain_t rfl), px_h h, fun tg _ => pid_any h, fun i y py spos nd hy hl hf => ?_⟩
  rcases sw_cases (elt := elt) (gs := [⟨tg, iter, ifs, 0⟩]) (scope := scope) (pos := pos) (py := py) (y := y) (l := spos.line) (env := X.env) with ⟨sw, hl'⟩ | sw
  · exact ⟨_, ps_setLc hc nd hy hl' sw hi ok hg ht (fun s H C cl fp => px_d (he s H C cl fp)) hs, fun _ _ _ q => comp_ok hin q⟩
  · exact ⟨_, ps_set nd hy hl h sw hf, fun _ _ _ q => q⟩
theorem Ok.dcomp (t : Bool) {kx vx tg iter : Expr} {ifs : List Expr} {scope : Scope} {own : List (Str × Nat)} {pos : Pos} {g : Tg} {it : FL} {tt : FT} {fk fv : FX} (hu : X.A.units + 1 < cLine) (hc : X.calm = true) (hN : X.N.Nodup) (hi : PId X tg iter it) (ok : BlkOk X.N X.env.scope scope own) (hin : tgIn g (own.map (·.2)))
    (hg : BlkX X scope fun Y => PG Y tg (tTg X.K g)) (ht : BlkX X scope fun Y => PTs Y ifs (tT X.K tt)) (hk : BlkX X scope fun Y => PE Y kx (tX X.K fk)) (hv : BlkX X scope fun Y => PE Y vx (tX X.K fv)) (hs : ∀ x, foldedSetIterable iter X.env x = pure x) :
    Ok X (.DictComp kx vx [⟨tg, iter, ifs, 0⟩] scope pos) (Ev.of (dcompX t g (own.map (·.2)) it tt fk fv)) false := by
  have h := px_dcomp (pos := pos) t hu hc hN hi ok hin hg ht hk hv hs
  refine ⟨h, pt_h (px_h h) (plain_t rfl), px_h h, fun tg _ => pid_any h, fun i y py spos nd hy hl hf => ?_⟩
  rcases sw_casesD (kx := kx) (vx := vx) (gs := [⟨tg, iter, ifs, 0⟩]) (scope := scope) (pos := pos) (py := py) (y := y) (l := spos.line) (env := X.env) with ⟨sw, hl'⟩ | sw
  · exact ⟨_, ps_setDc t hu hc nd hy hl' sw hi ok hin hg ht hk hv hs, fun _ _ _ q => q⟩
  · exact ⟨_, ps_set nd hy hl h sw hf, fun _ _ _ q => q⟩
theorem pw_of {op : BoolOp} {es : List Expr} {pos : Pos} {t : TT} (h : PT X (.BoolOp op es pos) t) : PW X (.BoolOp op es pos) t := ⟨fun wh pins s σ H Q I q => by
  have z := h.run pins s σ H Q I q
  have e : PySem.isTrue (.BoolOp op es pos) X.env wh = PySem.isTrue (.BoolOp op es pos) X.env (eval (.BoolOp op es pos) X.env) := by
    rw [PySem.isTrue, PySem.isTrue]
  rw [e]
  exact z⟩
theorem tail_and {e : Expr} {rest : List Expr} {pos : Pos} {t : FT} (h : PT X (tailB .And e rest pos) (tT X.K t)) : PW X (.BoolOp .And (e :: rest) pos) (tT X.K t) := by
  cases rest with
  | nil => exact pw_and1 h
  | cons e2 es => exact pw_of h
theorem tail_or {e : Expr} {rest : List Expr} {pos : Pos} {t : FT} (h : PT X (tailB .Or e rest pos) (tT X.K t)) : PW X (.BoolOp .Or (e :: rest) pos) (tT X.K t) := by
  cases rest with
  | nil => exact pw_or1 h
  | cons e2 es => exact pw_of h
theorem tail_x {op : BoolOp} {e : Expr} {rest : List Expr} {pos : Pos} {f : FX} (h : PX X (tailB op e rest pos) f) : PX X (.BoolOp op (e :: rest) pos) f := by
  cases rest with
  | nil => exact pe_one h
  | cons e2 es => exact h
theorem eqE_of {op : CmpOp} {ne : Bool} (h : eqE op = some ne) (hu : X.A.units + 64 < cLine) : OpR X (compareOp op) (rDat X.K (eqQ ne)) := by
  cases op <;> simp [eqE] at h <;> subst h
  · exact opd_eq hu
  · exact opd_ne hu
theorem inE_of {op : CmpOp} {ne : Bool} (h : inE op = some ne) (hu : X.A.units + 64 < cLine) : OpR X (compareOp op) (rDat X.K (isinQ ne)) := by
  cases op <;> simp [inE] at h <;> subst h
  · exact opd_in hu
  · exact opd_notin hu
theorem Ok.isN {ea : Expr} {op : CmpOp} {pos p : Pos} {j : Nat} {a : Ev} {o ne : Bool} (h : isE op = some ne) (ha : Ok X ea a o) : Ok X (.Compare ea [op] [.Constant .none j p] pos) (Ev.ofT fun r m Q => a.h r m fun g m1 => Q (if ne then !isNon g else isNon g) m1) false := by
  cases op <;> simp [isE] at h <;> subst h
  · exact Ok.ofT rfl (pe_cmp (pc_isN ha.h) (mark_no rfl)) (pt_cmp (pc_isN ha.h) (mark_no rfl)) fun σ H Qv q => isN_ok q
  · exact Ok.ofT rfl (pe_cmp (pc_notN ha.h) (mark_no rfl)) (pt_cmp (pc_notN ha.h) (mark_no rfl)) fun σ H Qv q => isN_okN q
theorem Ok.isB {ea : Expr} {op : CmpOp} {pos p : Pos} {j : Nat} {a : Ev} {o ne k : Bool} (h : isE op = some ne) (ha : Ok X ea a o) : Ok X (.Compare ea [op] [.Constant (.bool k) j p] pos) (Ev.ofT fun r m Q => a.h r m fun g m1 => Q (if ne then !isBl k g else isBl k g) m1) false := by
  cases op <;> simp [isE] at h <;> subst h
  · exact Ok.ofT rfl (pe_cmpR op_isC ha.h pe_bl (mark_no rfl)) (pt_cmpR op_isC ha.h pe_bl (mark_no rfl)) fun σ H Qv q => isB_ok (ne := false) q
  · exact Ok.ofT rfl (pe_cmpR op_notC ha.h pe_bl (mark_no rfl)) (pt_cmpR op_notC ha.h pe_bl (mark_no rfl)) fun σ H Qv q => isB_ok (ne := true) q
end
section
variable {T : Tb} {cal : Nat → List D → Mu → QX → Prop} {cs : List D}
mutual
theorem ok_X : ∀ (x : X) (c : Ct) (Y : Cx) (e : Expr), Cok T cal cs c Y → ckX T x c e = true → Ok Y e (ev cal cs x) (needTup x)
  | .var i, c, Y, e, C, h => by
    simp only [ckX] at h
    split at h
    · next x p =>
      simp only [Bool.and_eq_true, beq_iff_eq] at h
      have v := C.var (p := p) h.1 h.2
      rw [ev]
      exact ⟨px_var v, pt_h (ph_var v) (plain_t rfl), ph_var v, fun tg _ => pid_any (px_var v), asg_plain rfl (px_var v)⟩
    · cases h
  | .con i, c, Y, e, C, h => by
    simp only [ckX] at h
    split at h
    · next x p =>
      simp only [Bool.and_eq_true, beq_iff_eq] at h
      obtain ⟨g1, g2, _⟩ := C.gl h.2
      rw [ev]
      refine Ok.of rfl rfl ?_
      cases e : cs[i]? with
      | none => exact PEi px_false fun σ H Qv ⟨B, F, r, m, Q, S, ⟨d, z, _⟩, k⟩ => by cases z
      | some d =>
        obtain ⟨v, u, hm, rv, rp⟩ := C.con i x d h.1 e
        exact PEi (pe_glob g1 hm rv g2) fun σ H Qv ⟨B, F, r, m, Q, S, ⟨d', z, w⟩, k⟩ => by
          cases z
          exact k v H ⟨F, m, .d d, .refl, S.mem, rp F, w⟩
    · cases h
  | .int i, c, Y, e, C, h => by
    simp only [ckX] at h
    split at h
    · simp only [beq_iff_eq] at h
      subst h
      rw [ev]
      exact Ok.of rfl rfl px_int
    · cases h
  | .str i, c, Y, e, C, h => by
    simp only [ckX] at h
    split at h
    · simp only [beq_iff_eq] at h
      subst h
      rw [ev]
      exact Ok.of rfl rfl px_str
    · cases h
  | .bl i, c, Y, e, C, h => by
    simp only [ckX] at h
    split at h
    · simp only [beq_iff_eq] at h
      subst h
      rw [ev]
      exact Ok.of rfl rfl px_bl
    · cases h
  | .non, c, Y, e, C, h => by
    simp only [ckX] at h
    split at h
    · rw [ev]
      exact Ok.of rfl rfl px_non
    · cases h
  | .tup xs, c, Y, e, C, h => by
    simp only [ckX] at h
    split at h
    · rw [ev]
      exact Ok.of rfl rfl (px_tup (ok_L xs c Y _ C h).pal)
    · cases h
  | .lst xs, c, Y, e, C, h => by
    simp only [ckX] at h
    split at h
    · rw [ev]
      exact Ok.of rfl rfl (px_lst (ok_L xs c Y _ C h).pal)
    · cases h
  | .bin o a b, c, Y, e, C, h => by
    simp only [ckX] at h
    split at h
    · simp only [Bool.and_eq_true, beq_iff_eq] at h
      obtain ⟨⟨h1, h2⟩, h3⟩ := h
      have e := bopE_of h1
      subst e
      rw [ev]
      exact Ok.of rfl rfl (px_bin (opd_bin o) (ok_X a c Y _ C h2).h (ok_X b c Y _ C h3).h)
    · cases h
  | .neg a, c, Y, e, C, h => by
    simp only [ckX] at h
    split at h
    · rw [ev]
      exact Ok.of rfl rfl (px_un (f := negR) und_neg (ok_X a c Y _ C h).h)
    · cases h
  | .cmp o a b, c, Y, e, C, h => by
    simp only [ckX] at h
    split at h
    · simp only [Bool.and_eq_true, beq_iff_eq] at h
      obtain ⟨⟨⟨h1, hs⟩, h2⟩, h3⟩ := h
      have e := copE_of h1
      subst e
      rw [ev]
      exact Ok.cmp (f := cmpR o) (opd_cop o) hs (ok_X a c Y _ C h2) (ok_X b c Y _ C h3)
    · cases h
  | .chain o1 o2 a b d, c, Y, e, C, h => by
    simp only [ckX] at h
    split at h
    · simp only [Bool.and_eq_true, beq_iff_eq] at h
      obtain ⟨⟨⟨⟨⟨h1, h2⟩, hs⟩, h3⟩, h4⟩, h5⟩ := h
      have e1 := copE_of h1
      have e2 := copE_of h2
      subst e1 e2
      rw [ev]
      exact Ok.ofT rfl (pe_chain (opd_cop o1) (opd_cop o2) (ok_X a c Y _ C h3).h (ok_X b c Y _ C h4).h (ok_X d c Y _ C h5).h (mark_last hs)) (pt_chain (opd_cop o1) (opd_cop o2) (ok_X a c Y _ C h3).h (ok_X b c Y _ C h4).h (ok_X d c Y _ C h5).h (mark_last hs)) fun σ H Qv q => chain_ok q
    · cases h
  | .eq ne a b, c, Y, e, C, h => by
    simp only [ckX] at h
    split at h
    · simp only [Bool.and_eq_true, beq_iff_eq] at h
      obtain ⟨⟨⟨h1, hs⟩, h2⟩, h3⟩ := h
      rw [ev]
      exact Ok.cmp (f := fun x y Q => plainD x = true ∧ plainD y = true ∧ Q (if ne then !eqD x y else eqD x y)) (eqE_of h1 (by have := C.units; omega)) hs (ok_X a c Y _ C h2) (ok_X b c Y _ C h3)
    · cases h
  | .isN ne a, c, Y, e, C, h => by
    simp only [ckX] at h
    split at h
    · simp only [Bool.and_eq_true, beq_iff_eq] at h
      rw [ev]
      exact Ok.isN h.1 (ok_X a c Y _ C h.2)
    · cases h
  | .isB ne k a, c, Y, e, C, h => by
    simp only [ckX] at h
    split at h
    · simp only [Bool.and_eq_true, beq_iff_eq] at h
      obtain ⟨⟨h1, h2⟩, h3⟩ := h
      subst h2
      rw [ev]
      exact Ok.isB h1 (ok_X a c Y _ C h3)
    · cases h
  | .isin ne a b, c, Y, e, C, h => by
    simp only [ckX] at h
    split at h
    · simp only [Bool.and_eq_true, beq_iff_eq] at h
      obtain ⟨⟨⟨h1, hs⟩, h2⟩, h3⟩ := h
      rw [ev]
      exact Ok.cmp (f := fun x y Q => isinR x y fun k => Q (if ne then !k else k)) (inE_of h1 (by have := C.units; omega)) hs (ok_X a c Y _ C h2) (ok_X b c Y _ C h3)
    · cases h
  | .and a b, c, Y, e, C, h => by
    simp only [ckX] at h
    split at h
    · simp only [Bool.and_eq_true] at h
      have ha := ok_X a c Y _ C h.1
      have hb := ok_X b c Y _ C h.2
      rw [ev]
      have hx := pxd_and ha.x (tail_x hb.x)
      exact ⟨hx, (pwd_and ha.t (tail_and hb.t)).pt, px_h hx, fun tg _ => pid_any hx, asg_plain rfl hx⟩
    · cases h
  | .or a b, c, Y, e, C, h => by
    simp only [ckX] at h
    split at h
    · simp only [Bool.and_eq_true] at h
      have ha := ok_X a c Y _ C h.1
      have hb := ok_X b c Y _ C h.2
      rw [ev]
      have hx := pxd_or ha.x (tail_x hb.x)
      exact ⟨hx, (pwd_or ha.t (tail_or hb.t)).pt, px_h hx, fun tg _ => pid_any hx, asg_plain rfl hx⟩
    · cases h
  | .not a, c, Y, e, C, h => by
    simp only [ckX] at h
    split at h
    · have ha := ok_X a c Y _ C h
      rw [ev]
      have hx := fun p => pxd_not (pos := p) ha.x
      exact ⟨hx _, ptd_not ha.t, px_h (hx _), fun tg _ => pid_any (hx _), asg_plain rfl (hx _)⟩
    · cases h
  | .ite t a b, c, Y, e, C, h => by
    simp only [ckX] at h
    split at h
    · simp only [Bool.and_eq_true] at h
      rw [ev]
      have hx := fun p => pxd_ite (pos := p) (ok_X t c Y _ C h.1.1).t (ok_X a c Y _ C h.1.2).x (ok_X b c Y _ C h.2).x
      exact ⟨hx _, pt_false, px_h (hx _), fun tg _ => pid_any (hx _), asg_plain rfl (hx _)⟩
    · cases h
  | .call f xs, c, Y, e, C, h => by
    simp only [ckX] at h
    split at h
    · simp only [Bool.and_eq_true, beq_iff_eq] at h
      rw [ev]
      exact Ok.of rfl rfl (px_call C h.1.1 h.1.2 (ok_L xs c Y _ C h.2))
    · cases h
  | .bi b xs, c, Y, e, C, h => by
    simp only [ckX] at h
    split at h
    · simp only [Bool.and_eq_true, beq_iff_eq] at h
      have hL := ok_L xs c Y _ C h.2
      have hn := hL.ns
      rw [List.all_cons, Bool.and_eq_true] at hn
      rw [ev]
      exact Ok.of rfl rfl (px_bi C h.1.1 h.1.2 hL.pag hn.1 hn.2)
    · cases h
  | .isi t a, c, Y, e, C, h => by
    simp only [ckX] at h
    split at h
    · simp only [Bool.and_eq_true, beq_iff_eq] at h
      obtain ⟨⟨⟨⟨⟨h1, h2⟩, h3⟩, h4⟩, h5⟩, h6⟩ := h
      subst h1
      have ha := ok_X a c Y _ C h6
      obtain ⟨g, hm, _, _⟩ := ckBlt_of C h3
      rw [ev]
      have hx := fun p1 p2 p3 => px_isi (p := p1) (pos := p2) ha.h (pe_tyn C (p := p3) h2 h4) g hm (star_cons h5) (star_cons rfl)
      exact Ok.ofT rfl (hx _ _ _) (pt_val (hx _ _ _) (plain_t rfl)) fun σ H Qv q => q
    · cases h
  | .ix a i, c, Y, e, C, h => by
    simp only [ckX] at h
    split at h
    · simp only [Bool.and_eq_true] at h
      rw [ev]
      exact Ok.of rfl rfl (px_ix (by have := C.units; omega) (ok_X a c Y _ C h.1.2).h (ok_X i c Y _ C h.2).h (plain_ix h.1.1))
    · cases h
  | .sl a lo hi, c, Y, e, C, h => by
    simp only [ckX] at h
    split at h
    · simp only [Bool.and_eq_true] at h
      rw [ev]
      exact Ok.of rfl rfl (px_sl (ok_X a c Y _ C h.1.1).h (ok_O lo c Y _ C h.1.2) (ok_O hi c Y _ C h.2))
    · cases h
  | .st k a, c, Y, e, C, h => by
    simp only [ckX] at h
    split at h
    · simp only [Bool.and_eq_true, beq_iff_eq] at h
      obtain ⟨h1, h2⟩ := h
      subst h1
      rw [ev]
      exact Ok.of rfl rfl (px_rev (ok_X a c Y _ C h2).h)
    · cases h
  | .comp g own it ifs elt, c, Y, e, C, h => by
    simp only [ckX] at h
    split at h
    · simp only [Bool.and_eq_true, Bool.or_eq_true, Bool.not_eq_true'] at h
      obtain ⟨⟨⟨⟨⟨⟨⟨h1, h2⟩, h3⟩, h4⟩, h5⟩, h6⟩, h7⟩, h8⟩ := h
      have hk : _ := (blk_of C h4).kind
      have CB := fun s H C1 cl fp => Cok.blk C hk s H C1 cl fp
      have hi := (ok_X it c Y _ C h1).it _ (fun z => by
        rcases h2 with h2 | h2
        · rw [z] at h2; cases h2
        · exact h2)
      have z := fun p => Ok.comp (pos := p) C.calm (by rw [C.N]; exact C.nd) hi (blk_of C h4) (by rw [ownL_snd]; exact inTg_of h5)
        (fun s H C1 cl fp => tg_of (CB s H C1 cl fp) h6) (fun s H C1 cl fp => ok_F ifs _ _ _ (CB s H C1 cl fp) h7) (fun s H C1 cl fp => (ok_X elt _ _ _ (CB s H C1 cl fp) h8).x) (set_pure h3)
      rw [ownL_snd] at z
      rw [ev]
      exact z _
    · cases h
  | .comp2 .., c, Y, e, C, h => by simp only [ckX] at h; cases h
  | .dcomp t g own it ifs kx vx, c, Y, e, C, h => by
    simp only [ckX] at h
    split at h
    · simp only [Bool.and_eq_true, Bool.or_eq_true, Bool.not_eq_true'] at h
      obtain ⟨⟨⟨⟨⟨⟨⟨⟨h1, h2⟩, h3⟩, h4⟩, h5⟩, h6⟩, h7⟩, h8⟩, h9⟩ := h
      have hk : _ := (blk_of C h4).kind
      have CB := fun s H C1 cl fp => Cok.blk C hk s H C1 cl fp
      have hi := (ok_X it c Y _ C h1).it _ (fun z => by
        rcases h2 with h2 | h2
        · rw [z] at h2; cases h2
        · exact h2)
      have z := fun p => Ok.dcomp (pos := p) t (by have := C.units; omega) C.calm (by rw [C.N]; exact C.nd) hi (blk_of C h4) (by rw [ownL_snd]; exact inTg_of h5)
        (fun s H C1 cl fp => tg_of (CB s H C1 cl fp) h6) (fun s H C1 cl fp => ok_F ifs _ _ _ (CB s H C1 cl fp) h7) (fun s H C1 cl fp => (ok_X kx _ _ _ (CB s H C1 cl fp) h8).x) (fun s H C1 cl fp => (ok_X vx _ _ _ (CB s H C1 cl fp) h9).x) (set_pure h3)
      rw [ownL_snd] at z
      rw [ev]
      exact z _
    · cases h
  | .dict0 t, c, Y, e, C, h => by
    simp only [ckX] at h
    split at h
    · rw [ev]
      exact Ok.of rfl rfl (px_dict0 t)
    · cases h
  | .disp .., c, Y, e, C, h => by simp only [ckX] at h; cases h
  | .get .., c, Y, e, C, h => by simp only [ckX] at h; cases h
  | .me .., c, Y, e, C, h => by simp only [ckX] at h; cases h
  | .rng xs, c, Y, e, C, h => by
    simp only [ckX] at h
    split at h
    · simp only [Bool.and_eq_true, beq_iff_eq, decide_eq_true_eq] at h
      obtain ⟨⟨⟨⟨h1, h2⟩, h3⟩, h4⟩, h5⟩ := h
      subst h1
      obtain ⟨g, hm, _, _⟩ := ckBlt_of C h2
      have hL := ok_L xs c Y _ C h5
      have hu := C.units
      rw [ev]
      refine Ok.only rfl fun tg _ => ?_
      cases hL with
      | nil => cases h3
      | cons n1 o1 hL =>
        cases hL with
        | nil => exact pid_rng1 g hm o1.x (star_cons n1)
        | cons n2 o2 hL =>
          cases hL with
          | nil => exact pid_rng2 g hm o1.x o2.x (by rw [star_cons n1, star_cons n2]; rfl) (star_cons n2)
          | cons n3 o3 hL =>
            cases hL with
            | nil => exact pid_rng3 g hm o1.x o2.x o3.x (star_cons n1) (star_cons n2) (star_cons n3) (by rw [star_cons n2, star_cons n3]; rfl)
            | cons => simp at h4
    · cases h
  | .rngl .., c, Y, e, C, h => by simp only [ckX] at h; cases h
  | .zip .., c, Y, e, C, h => by simp only [ckX] at h; cases h
  | .enu a, c, Y, e, C, h => by
    simp only [ckX] at h
    split at h
    · simp only [Bool.and_eq_true, beq_iff_eq] at h
      obtain ⟨⟨⟨h1, h2⟩, h3⟩, h4⟩ := h
      subst h1
      obtain ⟨g, hm, _, _⟩ := ckBlt_of C h2
      have ha := ok_X a c Y _ C h4
      rw [ev]
      refine Ok.only rfl fun tg ht => ?_
      have ht := ht rfl
      cases tg with
      | Tuple es k p => exact pid_enu g hm ha.x (star_cons h3)
      | _ => cases ht
    · cases h
theorem ok_L : ∀ (xs : List X) (c : Ct) (Y : Cx) (es : List Expr), Cok T cal cs c Y → ckL T xs c es = true → OkL cal cs Y es xs
  | [], c, Y, es, C, h => by
    simp only [ckL] at h
    split at h
    · exact .nil
    · cases h
  | x :: xs, c, Y, es, C, h => by
    simp only [ckL] at h
    split at h
    · simp only [Bool.and_eq_true] at h
      exact .cons h.1.1 (ok_X x c Y _ C h.1.2) (ok_L xs c Y _ C h.2)
    · cases h
theorem ok_O : ∀ (xs : List X) (c : Ct) (Y : Cx) (e : Option Expr), Cok T cal cs c Y → ckO T xs c e = true → PO Y e (tP Y.K (part (evl cal cs xs)))
  | [], c, Y, e, C, h => by
    simp only [ckO] at h
    split at h
    · rw [evl]
      exact pod_none
    · cases h
  | x :: xs, c, Y, e, C, h => by
    simp only [ckO] at h
    split at h
    · simp only [Bool.and_eq_true] at h
      rw [evl]
      exact pod_some (ok_X x c Y _ C h.2).x
    · cases h
theorem ok_F : ∀ (xs : List X) (c : Ct) (Y : Cx) (es : List Expr), Cok T cal cs c Y → ckF T xs c es = true → PTs Y es (tT Y.K (tAll (evl cal cs xs)))
  | [], c, Y, e, C, h => by
    simp only [ckF] at h
    split at h
    · rw [evl]
      exact ptsd_nil
    · cases h
  | x :: xs, c, Y, e, C, h => by
    simp only [ckF] at h
    split at h
    · simp only [Bool.and_eq_true] at h
      rw [evl]
      exact ptsd_one (ok_X x c Y _ C h.2).t
    · cases h
end
end
end Pd
/-! Pd: the check of statements. -/
namespace Pd
open PySem PySem.Spec PyProof.Rows L2
/-- no stores are swapped -/
def noSwap : Expr → Expr → Bool
  | .Tuple ts _ _, .Tuple vs _ _ => vs.all (foldedForSure 8) || decide (4 ≤ ts.length)
  | _, _ => true
theorem swap_tup {e : Expr} {ts : List Expr} {k : Nat} {p : Pos} {l : Nat} {env : Env} : swapsWith e (some (.Tuple ts k p)) l env = pure false := by
  cases e <;> rfl
theorem swap_sub {e o i : Expr} {p : Pos} {l : Nat} {env : Env} : swapsWith e (some (.Subscript o i p)) l env = pure false := by
  cases e <;> rfl
theorem stores_no {ts : List Expr} {k : Nat} {p : Pos} {e : Expr} {env : Env} (h : noSwap (.Tuple ts k p) e = true) : swappedStores [.Tuple ts k p] e env = pure none := by
  cases e with
  | Tuple vs k2 p2 =>
    simp only [noSwap, Bool.or_eq_true, decide_eq_true_eq] at h
    unfold swappedStores
    simp only [pure_bind]
    rcases h with h | h
    · simp only [h, if_true]
      split
      · rfl
      · split
        · rfl
        · split <;> rfl
    · have e1 : (ts.length == 2) = false := beq_eq_false_iff_ne.mpr (by omega)
      have e2 : (ts.length == 3) = false := beq_eq_false_iff_ne.mpr (by omega)
      rw [e1, e2]
      rfl
  | _ => rfl
def isStarred : Expr → Bool := fun | .Starred .. => true | _ => false
theorem not_starred {e : Expr} (h : notStar e = true) : isStarred e = false := by
  cases e <;> first | rfl | cases h
def pickN (env : Env) (l : Nat) : Expr → Option Str := fun
  | .Name id pos => if env.kindOf id == some .local && pos.line == l then some id else none
  | _ => none
theorem stores_eq {ts vs : List Expr} {kt k2 : Nat} {pt pt2 : Pos} {env : Env} : swappedStores [.Tuple ts kt pt] (.Tuple vs k2 pt2) env =
    (if (!(ts.length == 2 || ts.length == 3) || vs.length != ts.length || env.blockKind != .function) = true then pure none else
      if vs.any isStarred = true then pure none else
      if ((ts.filterMap (pickN env ((ts.head?.map (·.pos.line)).getD 0))).length != ts.length || (ts.filterMap (pickN env ((ts.head?.map (·.pos.line)).getD 0))).eraseDups.length != (ts.filterMap (pickN env ((ts.head?.map (·.pos.line)).getD 0))).length) = true then pure none else
      if vs.all (foldedForSure 8) = true then pure none else
      if vs.all (constantsAlone 8) = true then (do unsupported "assign.tuple-of-constant-expressions:order-of-the-stores"; pure (some (ts.filterMap (pickN env ((ts.head?.map (·.pos.line)).getD 0))))) else pure (some (ts.filterMap (pickN env ((ts.head?.map (·.pos.line)).getD 0))))) := by
  unfold swappedStores
  rfl
theorem pick_name {env : Env} {x : Str} {p : Pos} {l : Nat} (hx : env.scope.names.lookup x = some .local) (h : (p.line == l) = true) : pickN env l (.Name x p) = some x := by
  have kx : env.kindOf x = some .local := hx
  show (if (env.kindOf x == some .local && p.line == l) = true then some x else none) = some x
  rw [kx, h]
  rfl
theorem stores_two {a b : Expr} {x y : Str} {px py pt pt2 : Pos} {kt k2 : Nat} {env : Env} (hk : env.scope.kind = .function) (hx : env.scope.names.lookup x = some .local) (hy : env.scope.names.lookup y = some .local) (hl : (py.line == px.line) = true) (hxy : (x == y) = false) (ha : notStar a = true) (hb : notStar b = true)
    (hf : [a, b].all (foldedForSure 8) = false) (hc : [a, b].all (constantsAlone 8) = false) : swappedStores [.Tuple [.Name x px, .Name y py] kt pt] (.Tuple [a, b] k2 pt2) env = pure (some [x, y]) := by
  have bk : env.blockKind = .function := by unfold Env.blockKind; rw [hk]; rfl
  have st : [a, b].any isStarred = false := by
    simp [not_starred ha, not_starred hb]
  have hyx : (y == x) = false := by
    rw [beq_eq_false_iff_ne] at hxy ⊢
    exact fun z => hxy z.symm
  have e0 : (([Expr.Name x px, Expr.Name y py].head?.map (·.pos.line)).getD 0) = px.line := rfl
  have e : [Expr.Name x px, Expr.Name y py].filterMap (pickN env px.line) = [x, y] := by
    rw [List.filterMap_cons_some (pick_name hx (by simp)), List.filterMap_cons_some (pick_name hy hl)]
    rfl
  have ed : [x, y].eraseDups.length = 2 := by
    simp [List.eraseDups_cons, hyx]
  rw [stores_eq, e0, e, ed, hf, hc, st, bk]
  rfl
theorem stores_three {a b d : Expr} {x y z : Str} {px py pz pt pt2 : Pos} {kt k2 : Nat} {env : Env} (hk : env.scope.kind = .function) (hx : env.scope.names.lookup x = some .local) (hy : env.scope.names.lookup y = some .local) (hz : env.scope.names.lookup z = some .local)
    (hl : (py.line == px.line) = true) (hl2 : (pz.line == px.line) = true) (hxy : (x == y) = false) (hxz : (x == z) = false) (hyz : (y == z) = false) (ha : notStar a = true) (hb : notStar b = true) (hd : notStar d = true)
    (hf : [a, b, d].all (foldedForSure 8) = false) (hc : [a, b, d].all (constantsAlone 8) = false) : swappedStores [.Tuple [.Name x px, .Name y py, .Name z pz] kt pt] (.Tuple [a, b, d] k2 pt2) env = pure (some [x, y, z]) := by
  have bk : env.blockKind = .function := by unfold Env.blockKind; rw [hk]; rfl
  have st : [a, b, d].any isStarred = false := by
    simp [not_starred ha, not_starred hb, not_starred hd]
  have sy : ∀ {u v : Str}, (u == v) = false → (v == u) = false := fun h => by
    rw [beq_eq_false_iff_ne] at h ⊢
    exact fun z => h z.symm
  have e0 : (([Expr.Name x px, Expr.Name y py, Expr.Name z pz].head?.map (·.pos.line)).getD 0) = px.line := rfl
  have e : [Expr.Name x px, Expr.Name y py, Expr.Name z pz].filterMap (pickN env px.line) = [x, y, z] := by
    rw [List.filterMap_cons_some (pick_name hx (by simp)), List.filterMap_cons_some (pick_name hy hl), List.filterMap_cons_some (pick_name hz hl2)]
    rfl
  have ed : [x, y, z].eraseDups.length = 3 := by
    simp [List.eraseDups_cons, sy hxy, sy hxz, sy hyz]
  rw [stores_eq, e0, e, ed, hf, hc, st, bk]
  rfl
theorem few_ok {cpos : Pos} {e : Expr} {es : List Expr} {env : Env} (h : (e :: es).all notStar = true) (hl : (e :: es).length < 29) : ((backTo cpos (starEach (e :: es) env)).all (fun x => !x.1) && (backToKw cpos (keywordEach [] env)).all (fun x => x.1.isSome)
      && decide ((e :: es).length + ([] : List Keyword).length + (if ([] : List Keyword).isEmpty then 0 else 1) < 30)) = true := by
  rw [star_all h]
  have : decide ((e :: es).length + ([] : List Keyword).length + (if ([] : List Keyword).isEmpty then 0 else 1) < 30) = true := by
    apply decide_eq_true
    simp at hl ⊢
    omega
  rw [this]
  rfl
theorem asg_sub {o i : Expr} {pos : Pos} {env : Env} (h : notSlice i = true) : ∀ v, assign (.Subscript o i pos) env v = (do
      let ov ← holding [v] (eval o env)
      let iv ← holding [v, ov] (eval i env)
      standAt pos
      holding [v, ov, iv] (setItem ov iv v)
      release [v, ov, iv] []) := by
  intro v
  cases i <;> first | rfl | cases h
/-! ### the check -/
def Ct.loc (c : Ct) (x : Str) : Bool := c.sc.names.lookup x == some .local
def ckV (c : Ct) (i : Nat) : Expr → Bool
  | .Name x _ => c.N[i]? == some x && c.vis x
  | _ => false
mutual
def ckS (T : Tb) : S → Ct → Stmt → Bool
  | .set g x, c, s => match s with
    | .Assign [tg] e _ => ckX T x c e && ckTg c g tg && noSwap tg e
    | _ => false
  | .setO i x, c, s => match s with
    | .Assign [.Name y _] e _ => ckX T x c e && c.N[i]? == some y && c.st y
    | _ => false
  | .setC i x, c, s => match s with
    | .Assign [.Name y _] e _ => ckX T x c e && c.N[i]? == some y && c.st y
    | _ => false
  | .par i j a b, c, s => match s with
    | .Assign [.Tuple [.Name x px, .Name y py] _ _] (.Tuple [ea, eb] _ _) _ => c.N[i]? == some x && c.N[j]? == some y && !(i == j) && c.loc x && c.loc y && py.line == px.line && !(x == y) && !([ea, eb].all (foldedForSure 8)) && !([ea, eb].all (constantsAlone 8)) && ckL T [a, b] c [ea, eb]
    | _ => false
  | .par3 i j k a b d, c, s => match s with
    | .Assign [.Tuple [.Name x px, .Name y py, .Name z pz] _ _] (.Tuple [ea, eb, ed] _ _) _ => c.N[i]? == some x && c.N[j]? == some y && c.N[k]? == some z && !(i == j) && !(i == k) && !(j == k) && c.loc x && c.loc y && c.loc z && py.line == px.line && pz.line == px.line && !(x == y) && !(x == z) && !(y == z) && !([ea, eb, ed].all (foldedForSure 8)) && !([ea, eb, ed].all (constantsAlone 8)) && ckL T [a, b, d] c [ea, eb, ed]
    | _ => false
  | .pop g i ix, c, s => match s with
    | .Assign [tg] (.Call (.Attribute o at_ ap) es [] cp) _ => (match g with
      | [g] => ckTg c g tg
      | _ => false) && at_ == ("pop" : Str) && ckV c i o && decide (es.length ≤ 1) && ckL T ix c es && ap.endLine == cp.line
    | .Expr (.Call (.Attribute o at_ ap) es [] cp) _ => g.isEmpty && at_ == ("pop" : Str) && ckV c i o && decide (es.length ≤ 1) && ckL T ix c es && ap.endLine == cp.line
    | _ => false
  | .app i x, c, s => match s with
    | .Expr (.Call (.Attribute o at_ ap) [e] [] cp) _ => at_ == ("append" : Str) && ckV c i o && notStar e && ckX T x c e && ap.endLine == cp.line
    | _ => false
  | .appPop i j ix, c, s => match s with
    | .Expr (.Call (.Attribute o at_ ap) [.Call (.Attribute o2 at2 ap2) es [] cp2] [] cp) _ => at_ == ("append" : Str) && ckV c i o && ap.endLine == cp.line && at2 == ("pop" : Str) && ckV c j o2 && decide (es.length ≤ 1) && ckL T ix c es && ap2.endLine == cp2.line
    | _ => false
  | .ins i k x, c, s => match s with
    | .Expr (.Call (.Attribute o at_ ap) [e1, e2] [] cp) _ => at_ == ("insert" : Str) && ckV c i o && ckL T [k, x] c [e1, e2] && ap.endLine == cp.line
    | _ => false
  | .ext i x, c, s => match s with
    | .Expr (.Call (.Attribute o at_ ap) [e] [] cp) _ => at_ == ("extend" : Str) && ckV c i o && notStar e && ckX T x c e && ap.endLine == cp.line
    | _ => false
  | .setI i k x, c, s => match s with
    | .Assign [.Subscript o ei _] e _ => ckV c i o && notSlice ei && ckX T k c ei && ckX T x c e
    | _ => false
  | .exprS x, c, s => match s with
    | .Expr e _ => notComp e && ckX T x c e
    | _ => false
  | .ifS t a b, c, s => match s with
    | .If e p q _ => ckX T t c e && ckSs T a c p && ckSs T b c q
    | _ => false
  | .forS g it b, c, s => match s with
    | .For tg iter body [] _ => ckX T it c iter && (!needTup it || isT tg) && notSet iter && ckTg c g tg && ckSs T b c body
    | _ => false
  | .whileS t b, c, s => match s with
    | .While e body [] _ => ckX T t c e && ckSs T b c body
    | _ => false
  | .ret x, c, s => match s with
    | .Return (some e) _ => ckX T x c e
    | _ => false
  | .retO i, c, s => match s with
    | .Return (some e) _ => ckV c i e
    | _ => false
  | .retN, _, s => match s with
    | .Return none _ => true
    | _ => false
  | .nev, _, _ => true
  | .brk, _, s => match s with
    | .Break _ => true
    | _ => false
  | .cont, _, s => match s with
    | .Continue _ => true
    | _ => false
  | .pass, _, s => match s with
    | .Pass _ => true
    | .Expr (.Constant (.str _) _ _) _ => true
    | _ => false
  | .frz _, _, _ => false
  | .kill _, _, _ => false
def ckSs (T : Tb) : List S → Ct → List Stmt → Bool
  | [], _, ss => match ss with
    | [] => true
    | _ => false
  | .frz _ :: r, c, ss => ckSs T r c ss
  | .kill _ :: r, c, ss => ckSs T r c ss
  | s :: r, c, ss => match ss with
    | t :: ts => ckS T s c t && ckSs T r c ts
    | _ => false
end
end Pd
/-! Pd: the check of statements is sound. -/
namespace Pd
open PySem PySem.Spec PyProof.Rows L2
theorem swap_tupS {e : Expr} {ts : List Expr} {k : Nat} {p : Pos} {l : Nat} {env : Env} : swapsWithSole [.Tuple ts k p] e l env = pure false := by
  cases e <;> rfl
theorem swap_subS {e o i : Expr} {p : Pos} {l : Nat} {env : Env} : swapsWithSole [.Subscript o i p] e l env = pure false := by
  cases e <;> rfl
section
variable {X : Cx} {x : Str} {p ap cp pos : Pos} {i j : Nat}
theorem pe_pop0 (hv : PE X (.Name x p) (tVar i)) (hl : (ap.endLine == cp.line) = true) : PE X (.Call (.Attribute (.Name x p) "pop" ap) [] [] cp) (tPop X.K i nilL) :=
  PEi (pe_bm0 PySem.F.plainAttrs_list PySem.F.slot_list_pop PySem.F.type_list_pop mt_pop hv rfl hl) fun σ H Qv q => pop0_ok q
theorem pe_pop1 {e : Expr} {f : FX} (hv : PE X (.Name x p) (tVar i)) (hl : (ap.endLine == cp.line) = true) (hs : notStar e = true) (he : PX X e f) : PE X (.Call (.Attribute (.Name x p) "pop" ap) [e] [] cp) (tPop X.K i (consL f nilL)) :=
  PEi (pe_bm PySem.F.plainAttrs_list PySem.F.slot_list_pop PySem.F.type_list_pop mt_popAt hv (pa_cons (px_d he) pa_nil (star_cons hs)) rfl (few_ok (by rw [List.all_cons, hs]; rfl) (by show 1 < 29; decide)) hl (star_cons hs) rfl) fun σ H Qv q => pop1_ok q
theorem psd_app {e : Expr} {f : FX} (hv : PE X (.Name x p) (tVar i)) (hl : (ap.endLine == cp.line) = true) (hs : notStar e = true) (he : PX X e f) : PSd X (.Expr (.Call (.Attribute (.Name x p) "append" ap) [e] [] cp) pos) (appS i f) :=
  PSi (ps_expr (pe_bm PySem.F.plainAttrs_list PySem.F.slot_list_append PySem.F.type_list_append mt_append hv (pa_cons (px_d he) pa_nil (star_cons hs)) rfl (few_ok (by rw [List.all_cons, hs]; rfl) (by show 1 < 29; decide)) hl (star_cons hs) rfl) rfl) fun D σ H q => app_ok q
theorem psd_appPop {e : Expr} {t : FL} (hv : PE X (.Name x p) (tVar i)) (hl : (ap.endLine == cp.line) = true) (hs : notStar e = true) (he : PE X e (tPop X.K j t)) : PSd X (.Expr (.Call (.Attribute (.Name x p) "append" ap) [e] [] cp) pos) (appPopS i j t) :=
  PSi (ps_expr (pe_bm PySem.F.plainAttrs_list PySem.F.slot_list_append PySem.F.type_list_append mt_append hv (pa_cons he pa_nil (star_cons hs)) rfl (few_ok (by rw [List.all_cons, hs]; rfl) (by show 1 < 29; decide)) hl (star_cons hs) rfl) rfl) fun D σ H q => appPop_ok (fun _ _ _ q => q) q
theorem psd_ext {e : Expr} {f : FX} (hv : PE X (.Name x p) (tVar i)) (hl : (ap.endLine == cp.line) = true) (hs : notStar e = true) (he : PX X e f) : PSd X (.Expr (.Call (.Attribute (.Name x p) "extend" ap) [e] [] cp) pos) (extS i f) :=
  PSi (ps_expr (pe_bm PySem.F.plainAttrs_list PySem.F.slot_list_extend PySem.F.type_list_extend mt_extend hv (pa_cons he pa_nil (star_cons hs)) rfl (few_ok (by rw [List.all_cons, hs]; rfl) (by show 1 < 29; decide)) hl (star_cons hs) rfl) rfl) fun D σ H q => ext_ok q
theorem psd_ins {e1 e2 : Expr} {t : FL} (hv : PE X (.Name x p) (tVar i)) (hl : (ap.endLine == cp.line) = true) (hs : notStar e1 = true) (hs2 : notStar e2 = true) (he : PA X [e1, e2] (tL X.K t)) : PSd X (.Expr (.Call (.Attribute (.Name x p) "insert" ap) [e1, e2] [] cp) pos) (insS i t) :=
  PSi (ps_expr (pe_bm PySem.F.plainAttrs_list PySem.F.slot_list_insert PySem.F.type_list_insert mt_insert hv he rfl (few_ok (by rw [List.all_cons, List.all_cons, hs, hs2]; rfl) (by show 2 < 29; decide)) hl (star_cons hs) (by rw [star_cons hs2]; rfl)) rfl) fun D σ H q => ins_ok q
theorem psd_setI {ei e : Expr} {pp : Pos} {k f : FX} (hu : X.A.units + 1 < cLine) (hv : PE X (.Name x p) (tVar i)) (hn : notSlice ei = true) (hk : PX X ei k) (he : PX X e f) : PSd X (.Assign [.Subscript (.Name x p) ei pp] e pos) (setIS i k f) :=
  PSi (ps_asg (px_d he) (pg_sub hv (px_d hk) (PSet.or set_list (set_dict hu)) (asg_sub hn)) swap_subS rfl rfl) fun D σ H q => setI_ok q
end
section
variable {T : Tb} {cal : Nat → List D → Mu → QX → Prop} {cs : List D}
theorem ckV_of {c : Ct} {Y : Cx} (C : Cok T cal cs c Y) {i : Nat} {e : Expr} (h : ckV c i e = true) : PE Y e (tVar i) ∧ ∃ x p, e = .Name x p := by
  cases e with
  | Name x p =>
    simp only [ckV, Bool.and_eq_true, beq_iff_eq] at h
    exact ⟨C.var h.1 h.2, x, p, rfl⟩
  | _ => simp [ckV] at h
theorem pop_of {c : Ct} {Y : Cx} (C : Cok T cal cs c Y) {i : Nat} {o : Expr} {ap cp : Pos} {ix : List X} {es : List Expr} (h1 : ckV c i o = true) (h2 : es.length ≤ 1) (h3 : ckL T ix c es = true) (h4 : (ap.endLine == cp.line) = true) :
    PE Y (.Call (.Attribute o "pop" ap) es [] cp) (tPop Y.K i (evs cal cs ix)) := by
  obtain ⟨hv, x, p, rfl⟩ := ckV_of C h1
  have hL := ok_L (cal := cal) (cs := cs) ix c Y es C h3
  cases hL with
  | nil => rw [evs]; exact pe_pop0 hv h4
  | cons n1 o1 hL =>
    cases hL with
    | nil => rw [evs, evs]; exact pe_pop1 hv h4 n1 o1.x
    | cons => simp at h2
mutual
theorem ok_S : ∀ (s : S) (c : Ct) (Y : Cx) (st : Stmt), Cok T cal cs c Y → PassesOwn (model Y.prog Y.w) Y.A Y.env Y.xe → ckS T s c st = true → PSd Y st (ex cal cs s)
  | .set g x, c, Y, st, C, P, h => by
    simp only [ckS] at h
    split at h
    · next tg e pos =>
      simp only [Bool.and_eq_true] at h
      obtain ⟨⟨h1, h2⟩, h3⟩ := h
      have hx := ok_X x c Y _ C h1
      rw [ex]
      cases g with
      | name i =>
        cases tg with
        | Name y py =>
          simp only [ckTg, Bool.and_eq_true, beq_iff_eq] at h2
          obtain ⟨l1, l2⟩ := C.st h2.2
          obtain ⟨te, hp, ht⟩ := hx.asg i y py pos (by rw [C.N]; exact C.nd) (by rw [C.N]; exact h2.1) l1 l2
          exact PSi hp fun D σ H q => set_ok (f := (ev cal cs x).x) ht (fun v σ H Q q => tg_name q) q
        | _ => simp [ckTg] at h2
      | tup is =>
        cases tg with
        | Tuple ts k p =>
          have hg := tg_of C h2
          exact PSi (ps_asg hx.x hg swap_tupS (stores_no h3) rfl) fun D σ H q => set_ok (f := (ev cal cs x).x) (fun _ _ _ q => q) (fun v σ H Q q => q) q
        | _ => simp [ckTg] at h2
    · cases h
  | .setO i x, c, Y, st, C, P, h => by
    simp only [ckS] at h
    split at h
    · next y py e pos =>
      simp only [Bool.and_eq_true, beq_iff_eq] at h
      obtain ⟨⟨h1, h2⟩, h3⟩ := h
      have hx := ok_X x c Y _ C h1
      obtain ⟨l1, l2⟩ := C.st h3
      obtain ⟨te, hp, ht⟩ := hx.asg i y py pos (by rw [C.N]; exact C.nd) (by rw [C.N]; exact h2) l1 l2
      rw [ex]
      exact PSi hp fun D σ H q => setO_ok (f := (ev cal cs x).x) ht q
    · cases h
  | .setC i x, c, Y, st, C, P, h => by
    simp only [ckS] at h
    split at h
    · next y py e pos =>
      simp only [Bool.and_eq_true, beq_iff_eq] at h
      obtain ⟨⟨h1, h2⟩, h3⟩ := h
      have hx := ok_X x c Y _ C h1
      obtain ⟨l1, l2⟩ := C.st h3
      obtain ⟨te, hp, ht⟩ := hx.asg i y py pos (by rw [C.N]; exact C.nd) (by rw [C.N]; exact h2) l1 l2
      rw [ex]
      exact PSi hp fun D σ H q => setC_ok (f := (ev cal cs x).x) ht q
    · cases h
  | .par i j a b, c, Y, st, C, P, h => by
    simp only [ckS] at h
    split at h
    · simp only [Bool.and_eq_true, beq_iff_eq, Bool.not_eq_true', Ct.loc] at h
      obtain ⟨⟨⟨⟨⟨⟨⟨⟨⟨h1, h2⟩, h3⟩, h4⟩, h5⟩, h6⟩, h7⟩, h8⟩, h9⟩, h10⟩ := h
      have hL := ok_L (cal := cal) (cs := cs) [a, b] c Y _ C h10
      have hn := hL.ns
      simp only [List.all_cons, List.all_nil, Bool.and_eq_true] at hn
      rw [ex]
      exact psd_par (t := evs cal cs [a, b]) C.calm (by rw [C.N]; exact C.nd) (by rw [C.N]; exact h1) (by rw [C.N]; exact h2) (by simpa using h3) (by rw [C.sc]; exact h4) (by rw [C.sc]; exact h5) hL.pal
        (stores_two (by rw [C.sc]; exact C.kind) (by rw [C.sc]; exact h4) (by rw [C.sc]; exact h5) (by simpa using h6) h7 hn.1 hn.2.1 h8 h9) rfl
    · cases h
  | .par3 i j k a b d, c, Y, st, C, P, h => by
    simp only [ckS] at h
    split at h
    · simp only [Bool.and_eq_true, beq_iff_eq, Bool.not_eq_true', Ct.loc] at h
      obtain ⟨⟨⟨⟨⟨⟨⟨⟨⟨⟨⟨⟨⟨⟨⟨⟨h1, h2⟩, h3⟩, h4⟩, h5⟩, h6⟩, h7⟩, h8⟩, h9⟩, h10⟩, h11⟩, h12⟩, h13⟩, h14⟩, h15⟩, h16⟩, h17⟩ := h
      have hL := ok_L (cal := cal) (cs := cs) [a, b, d] c Y _ C h17
      have hn := hL.ns
      simp only [List.all_cons, List.all_nil, Bool.and_eq_true] at hn
      rw [ex]
      exact psd_par3 (t := evs cal cs [a, b, d]) C.calm (by rw [C.N]; exact C.nd) (by rw [C.N]; exact h1) (by rw [C.N]; exact h2) (by rw [C.N]; exact h3) (by simpa using h4) (by simpa using h5) (by simpa using h6) (by rw [C.sc]; exact h7) (by rw [C.sc]; exact h8) (by rw [C.sc]; exact h9) hL.pal
        (stores_three (by rw [C.sc]; exact C.kind) (by rw [C.sc]; exact h7) (by rw [C.sc]; exact h8) (by rw [C.sc]; exact h9) (by simpa using h10) (by simpa using h11) h12 h13 h14 hn.1 hn.2.1 hn.2.2.1 h15 h16) rfl
    · cases h
  | .pop g i ix, c, Y, st, C, P, h => by
    simp only [ckS] at h
    split at h
    · next tg o at_ ap es cp pos =>
      simp only [Bool.and_eq_true, decide_eq_true_eq] at h
      obtain ⟨⟨⟨⟨⟨h1, h2⟩, h3⟩, h4⟩, h5⟩, h6⟩ := h
      have e := beq_iff_eq.mp h2
      subst e
      split at h1
      · next g1 =>
        rw [ex]
        have hp := pop_of C h3 h4 h5 h6
        have hg := tg_of C h1
        have no : swappedStores [tg] (.Call (.Attribute o "pop" ap) es [] cp) Y.env = pure none := by
          cases tg <;> rfl
        have h0 : (assignEach [tg] Y.env).map (·.2) = [assign tg Y.env] := by
          cases g1 with
          | name i => cases tg <;> first | rfl | simp [ckTg] at h1
          | tup is => cases tg <;> first | rfl | simp [ckTg] at h1
        exact PSi (ps_asg hp hg rfl no h0) fun D σ H q => popS_ok (fun _ _ _ q => q) (fun _ _ _ _ q => q) q
      · cases h1
    · next o at_ ap es cp pos =>
      simp only [Bool.and_eq_true, decide_eq_true_eq] at h
      obtain ⟨⟨⟨⟨⟨h1, h2⟩, h3⟩, h4⟩, h5⟩, h6⟩ := h
      have e := beq_iff_eq.mp h2
      subst e
      cases g with
      | nil =>
        rw [ex]
        exact PSi (ps_expr (pop_of C h3 h4 h5 h6) rfl) fun D σ H q => popD_ok (fun _ _ _ q => q) q
      | cons _ _ => cases h1
    · cases h
  | .app i x, c, Y, st, C, P, h => by
    simp only [ckS] at h
    split at h
    · simp only [Bool.and_eq_true] at h
      obtain ⟨⟨⟨⟨h1, h2⟩, h3⟩, h4⟩, h5⟩ := h
      have e := beq_iff_eq.mp h1
      subst e
      obtain ⟨hv, y, p, rfl⟩ := ckV_of C h2
      rw [ex]
      exact psd_app hv h5 h3 (ok_X x c Y _ C h4).x
    · cases h
  | .appPop i j ix, c, Y, st, C, P, h => by
    simp only [ckS] at h
    split at h
    · simp only [Bool.and_eq_true, decide_eq_true_eq] at h
      obtain ⟨⟨⟨⟨⟨⟨⟨h1, h2⟩, h3⟩, h4⟩, h5⟩, h6⟩, h7⟩, h8⟩ := h
      have e := beq_iff_eq.mp h1
      have e' := beq_iff_eq.mp h4
      subst e e'
      obtain ⟨hv, y, p, rfl⟩ := ckV_of C h2
      rw [ex]
      exact psd_appPop hv h3 rfl (pop_of C h5 h6 h7 h8)
    · cases h
  | .ins i k x, c, Y, st, C, P, h => by
    simp only [ckS] at h
    split at h
    · simp only [Bool.and_eq_true] at h
      obtain ⟨⟨⟨h1, h2⟩, h3⟩, h4⟩ := h
      have e := beq_iff_eq.mp h1
      subst e
      obtain ⟨hv, y, p, rfl⟩ := ckV_of C h2
      have hL := ok_L (cal := cal) (cs := cs) [k, x] c Y _ C h3
      have hn := hL.ns
      simp only [List.all_cons, List.all_nil, Bool.and_eq_true] at hn
      rw [ex]
      exact psd_ins hv h4 hn.1 hn.2.1 hL.pal
    · cases h
  | .ext i x, c, Y, st, C, P, h => by
    simp only [ckS] at h
    split at h
    · simp only [Bool.and_eq_true] at h
      obtain ⟨⟨⟨⟨h1, h2⟩, h3⟩, h4⟩, h5⟩ := h
      have e := beq_iff_eq.mp h1
      subst e
      obtain ⟨hv, y, p, rfl⟩ := ckV_of C h2
      rw [ex]
      exact psd_ext hv h5 h3 (ok_X x c Y _ C h4).x
    · cases h
  | .setI i k x, c, Y, st, C, P, h => by
    simp only [ckS] at h
    split at h
    · simp only [Bool.and_eq_true] at h
      obtain ⟨⟨⟨h1, h2⟩, h3⟩, h4⟩ := h
      obtain ⟨hv, y, p, rfl⟩ := ckV_of C h1
      rw [ex]
      exact psd_setI (by have := C.units; omega) hv h2 (ok_X k c Y _ C h3).x (ok_X x c Y _ C h4).x
    · cases h
  | .exprS x, c, Y, st, C, P, h => by
    simp only [ckS] at h
    split at h
    · simp only [Bool.and_eq_true] at h
      rw [ex]
      exact psd_expr (ok_X x c Y _ C h.2).x (swap_no h.1)
    · cases h
  | .ifS t a b, c, Y, st, C, P, h => by
    simp only [ckS] at h
    split at h
    · simp only [Bool.and_eq_true] at h
      rw [ex]
      exact psd_if (ok_X t c Y _ C h.1.1).t (ok_Ss a c Y _ C P h.1.2) (ok_Ss b c Y _ C P h.2)
    · cases h
  | .forS g it b, c, Y, st, C, P, h => by
    simp only [ckS] at h
    split at h
    · simp only [Bool.and_eq_true, Bool.or_eq_true, Bool.not_eq_true'] at h
      obtain ⟨⟨⟨⟨h1, h2⟩, h3⟩, h4⟩, h5⟩ := h
      have hi := (ok_X it c Y _ C h1).it _ (fun z => by
        rcases h2 with h2 | h2
        · rw [z] at h2; cases h2
        · exact h2)
      rw [ex]
      exact psd_for P C.calm hi (tg_of C h4) (ok_Ss b c Y _ C P h5) (set_pure h3)
    · cases h
  | .whileS t b, c, Y, st, C, P, h => by
    simp only [ckS] at h
    split at h
    · simp only [Bool.and_eq_true] at h
      rw [ex]
      exact psd_while P (ok_X t c Y _ C h.1).t (ok_Ss b c Y _ C P h.2)
    · cases h
  | .ret x, c, Y, st, C, P, h => by
    simp only [ckS] at h
    split at h
    · rw [ex]
      exact psd_ret (ok_X x c Y _ C h).x
    · cases h
  | .retO i, c, Y, st, C, P, h => by
    simp only [ckS] at h
    split at h
    · rw [ex]
      exact psd_retO (ckV_of C h).1
    · cases h
  | .retN, c, Y, st, C, P, h => by
    simp only [ckS] at h
    split at h
    · rw [ex]
      exact psd_retN
    · cases h
  | .nev, c, Y, st, C, P, h => by
    rw [ex]
    exact psd_never
  | .brk, c, Y, st, C, P, h => by
    simp only [ckS] at h
    split at h
    · rw [ex]
      exact psd_brk
    · cases h
  | .cont, c, Y, st, C, P, h => by
    simp only [ckS] at h
    split at h
    · rw [ex]
      exact psd_cont
    · cases h
  | .pass, c, Y, st, C, P, h => by
    simp only [ckS] at h
    split at h
    · rw [ex]
      exact psd_pass
    · rw [ex]
      exact psd_doc
    · cases h
  | .frz i, c, Y, st, C, P, h => by
    simp only [ckS] at h
    cases h
  | .kill i, c, Y, st, C, P, h => by
    simp only [ckS] at h
    cases h
theorem ok_Ss : ∀ (ss : List S) (c : Ct) (Y : Cx) (sts : List Stmt), Cok T cal cs c Y → PassesOwn (model Y.prog Y.w) Y.A Y.env Y.xe → ckSs T ss c sts = true → PSsd Y sts (exs cal cs ss)
  | [], c, Y, sts, C, P, h => by
    simp only [ckSs] at h
    split at h
    · rw [exs]
      exact pssd_nil
    · cases h
  | s :: r, c, Y, sts, C, P, h => by
    have main : ∀ t ts, (ckS T s c t && ckSs T r c ts) = true → PSsd Y (t :: ts) (exs cal cs (s :: r)) := fun t ts h => by
      simp only [Bool.and_eq_true] at h
      rw [exs]
      exact pssd_cons (ok_S s c Y t C P h.1) (ok_Ss r c Y ts C P h.2)
    cases s with
    | frz i =>
      simp only [ckSs] at h
      rw [exs, ex]
      exact pssd_frz (ok_Ss r c Y sts C P h)
    | kill i =>
      simp only [ckSs] at h
      rw [exs, ex]
      exact pssd_kill (ok_Ss r c Y sts C P h)
    | _ =>
      simp only [ckSs] at h
      cases sts with
      | nil => cases h
      | cons t ts => exact main t ts h
end
end
end Pd
/-! Pd: all defs keep what callN says; the end of a law. -/
namespace Pd
open PySem PySem.Spec PyProof.Rows L2
/-- a def of the table, as the head leaves it -/
structure DefOk (K : PySem.W.Frag) (mg : Str → Option Value) (T : Tb) (f : Nat) (F : Fn) (a : Addr) (fd : FuncData) (ps : List Str) : Prop where
  ex : ∃ x y qual params body scope N, T.fns[f]? = some (x, F.np) ∧ mg x = some (.ref a) ∧ FunD K y qual params body scope [] [] a fd ∧ FnScope N ps scope ∧ ps.length = F.np ∧ N.length = F.ns ∧ Binds K fd ps [] ∧ ckSs T F.body ⟨N, scope, fun _ => true⟩ body = true
theorem callN_len {T : List Fn} {cs : List D} {n f : Nat} {ds : List D} {m : Mu} {Q : QX} (h : callN T cs n f ds m Q) : ∃ F, T[f]? = some F ∧ ds.length = F.np := by
  cases n with
  | zero => exact (callN_z h).elim
  | succ n =>
    rw [callN_s] at h
    obtain ⟨F, e, l, _⟩ := h
    exact ⟨F, e, l⟩
section
variable {P : Program} {w : World} {K : PySem.W.Frag} {mg : Str → Option Value} {base : Heap} {T : Tb} {cs : List D} {Fs : List Fn}
theorem body_ok {n f : Nat} {F : Fn} {a : Addr} {fd : FuncData} {ps : List Str} (eF : Fs[f]? = some F) (hd : DefOk K mg T f F a fd ps)
    (hfree : ∀ x ∈ T.free, mg x = none) (hcon : ∀ (i : Nat) x d, T.cons[i]? = some x → cs[i]? = some d → ∃ v u, mg x = some u ∧ RelV v u ∧ ∀ F, Rep K F d v)
    (hcall : ∀ (i : Nat) x np, T.fns[i]? = some (x, np) → ∃ a fd ps, mg x = some (.ref a) ∧ PySem.W.keepIn K (.ref a) = true ∧ Binds K fd ps [] ∧ FnOk P w K mg base CX0 n a fd ps (spC K (callN Fs cs n i))) :
    FnOk P w K mg base CX0 (n + 1) a fd ps (spC K (callN Fs cs (n + 1) f)) := by
  obtain ⟨x, y, qual, params, body, scope, N, hx, hm, FD, Sc, hps, hN, hb, ck⟩ := hd.ex
  refine FD.ok Sc (fun vs H Q E h => ?_) fun cdv A outer s H vs Q E hr h => ?_
  · obtain ⟨F0, m, ds, Qd, M, R, c, k⟩ := h
    obtain ⟨F', e', l⟩ := callN_len c
    rw [eF] at e'
    cases e'
    rw [R.length, l, hps]
  · obtain ⟨F0, m, ds, Qd, M, R, c, k⟩ := h
    rw [callN_s] at c
    obtain ⟨F', e', l, w'⟩ := c
    rw [eF] at e'
    cases e'
    have hu := hr.un
    have C : Cok T (callN Fs cs n) cs ⟨N, scope, fun _ => true⟩ (cxOf CX0 P w K mg base N qual scope a cdv A outer s H E).nox := by
      refine ⟨rfl, Sc.nd, rfl, Sc.kind, rfl, rfl, ?_, hfree, hcon, fun i x np e => ?_⟩
      · show (A.deeper _).units + 66 < cLine
        omega
      · obtain ⟨a', fd', ps', h1, h2, h3, h4⟩ := hcall i x np e
        exact ⟨a', fd', ps', n, h1, h2, h3, h4, hr⟩
    refine ⟨tS K (exs (callN Fs cs n) cs F.body), PSs.nox (ok_Ss F.body _ _ body C PassesOwn.never ck), ⟨F0, m, H⟩, F0, ds.map SV.fz ++ List.replicate (F.ns - F.np) SV.un, m, { m0 := m, nx := fun _ m' => Qd (.d .non) m', rt := Qd }, ?_, rfl, w', ?_⟩
    · have ll : (L2.start N vs).length = (ds.map SV.fz ++ List.replicate (F.ns - F.np) SV.un).length := by
        unfold L2.start
        simp [R.length, l, hN]
      refine ⟨M, .refl, ll, fun i sv e => ?_, fun i j c c' b hij e1 e2 _ _ => ?_⟩
      · by_cases hi : i < ds.length
        · rw [List.getElem?_append_left (by simpa using hi), List.getElem?_map, Option.map_eq_some_iff] at e
          obtain ⟨d, ed, e⟩ := e
          subst e
          obtain ⟨v, ev, rv⟩ := R.get ed
          refine ⟨some v, ?_, v, rfl, rv⟩
          unfold L2.start
          rw [List.getElem?_append_left (by rw [List.length_map, R.length]; exact hi), List.getElem?_map, ev]
          rfl
        · rw [List.getElem?_append_right (by simpa using hi), List.getElem?_replicate] at e
          split at e
          · next h2 =>
            cases e
            refine ⟨none, ?_, trivial⟩
            unfold L2.start
            rw [List.getElem?_append_right (by rw [List.length_map, R.length]; omega), List.getElem?_replicate, if_pos]
            rw [List.length_map, R.length, hN, l]
            simpa [l] using h2
          · cases e
      · have no : ∀ (i : Nat) c, (ds.map SV.fz ++ List.replicate (F.ns - F.np) SV.un)[i]? = some (SV.ow c) → False := fun i c e => by
          have := List.mem_of_getElem? e
          rw [List.mem_append] at this
          rcases this with h | h
          · obtain ⟨d, _, z⟩ := List.mem_map.mp h; cases z
          · cases (List.mem_replicate.mp h).2
        exact no i c e1
    · refine ⟨fun F1 r m1 σ H1 l1 S1 q => k _ _ ⟨F1, m1, .d .non, S1.ext, S1.mem, (rep_non : Rep K F1 .non .non), q⟩, fun _ _ _ _ _ _ _ q => q.elim, fun _ _ _ _ _ _ _ q => q.elim, fun F1 m1 H1 rv v E1 M1 R1 q => k _ _ ⟨F1, m1, rv, E1, M1, R1, q⟩⟩
/-- all defs, at every depth -/
theorem fns_ok (hT : ∀ (f : Nat) x np, T.fns[f]? = some (x, np) → ∃ F, Fs[f]? = some F ∧ F.np = np) (hd : ∀ (f : Nat) F, Fs[f]? = some F → ∃ a fd ps, DefOk K mg T f F a fd ps)
    (hfree : ∀ x ∈ T.free, mg x = none) (hcon : ∀ (i : Nat) x d, T.cons[i]? = some x → cs[i]? = some d → ∃ v u, mg x = some u ∧ RelV v u ∧ ∀ F, Rep K F d v) :
    ∀ n (f : Nat) F a fd ps, Fs[f]? = some F → DefOk K mg T f F a fd ps → FnOk P w K mg base CX0 n a fd ps (spC K (callN Fs cs n f))
  | 0, f, F, a, fd, ps, eF, D => ⟨fun vs H Q E h => by obtain ⟨_, _, _, _, _, _, c, _⟩ := h; exact (callN_z c).elim, fun A outer s H args us vs Q E _ _ _ _ h => by obtain ⟨_, _, _, _, _, _, c, _⟩ := h; exact (callN_z c).elim⟩
  | n + 1, f, F, a, fd, ps, eF, D => body_ok eF D hfree hcon fun i x np e => by
    obtain ⟨F', e', enp⟩ := hT i x np e
    obtain ⟨a', fd', ps', z⟩ := hd i F' e'
    obtain ⟨x', y, qual, params, body, scope, N, hx, hm, FD, Sc, hps, hN, hb, ck⟩ := z.ex
    rw [e] at hx
    cases hx
    exact ⟨a', fd', ps', hm, FD.kp, hb, fns_ok hT hd hfree hcon n i F' a' fd' ps' e' z⟩
/-- one def after another -/
def AllD (K : PySem.W.Frag) (mg : Str → Option Value) (T : Tb) : Nat → List Fn → Prop
  | _, [] => True
  | i, F :: r => (∃ a fd ps, DefOk K mg T i F a fd ps) ∧ AllD K mg T (i + 1) r
theorem AllD.at : ∀ {i : Nat} {Fs : List Fn}, AllD K mg T i Fs → ∀ (f : Nat) F, Fs[f]? = some F → ∃ a fd ps, DefOk K mg T (i + f) F a fd ps
  | _, [], _, _, _, e => by simp at e
  | i, F :: r, ⟨h, t⟩, 0, F', e => by
    simp at e
    subst e
    exact h
  | i, F :: r, ⟨h, t⟩, f + 1, F', e => by
    have z := AllD.at t f F' (by simpa using e)
    have e : i + 1 + f = i + (f + 1) := by omega
    rw [e] at z
    exact z
/-- the table's names stand for the list -/
def tabOk : List (Str × Nat) → List Fn → Bool
  | [], _ => true
  | (_, n) :: r, F :: Fs => n == F.np && tabOk r Fs
  | _ :: _, [] => false
theorem tabOk_at : ∀ {t : List (Str × Nat)} {Fs : List Fn}, tabOk t Fs = true → ∀ (f : Nat) x np, t[f]? = some (x, np) → ∃ F, Fs[f]? = some F ∧ F.np = np
  | [], _, _, _, _, _, e => by simp at e
  | (y, n) :: r, [], h, _, _, _, e => by cases h
  | (y, n) :: r, F :: Fs, h, f, x, np, e => by
    simp only [tabOk, Bool.and_eq_true, beq_iff_eq] at h
    cases f with
    | zero =>
      simp at e
      exact ⟨F, rfl, by rw [← h.1, e.2]⟩
    | succ f => exact tabOk_at h.2 f x np (by simpa using e)
/-- the script as the law's call hands it over -/
theorem law_in {H : Hp} {a : Addr} {ns : List Int} {c : List D → Mu → QX → Prop} (hS : SqL K H a (ns.map V.int)) (h : c [.lst (ns.map .int)] (fun _ => none) fun rv _ => rv = .d (.bl true)) : spC K c [.ref a] H (fun v _ => v = .bl true) E0 := by
  refine ⟨H, fun _ => none, [.lst (ns.map .int)], fun rv _ => rv = .d (.bl true), ⟨fun _ _ e => e, fun _ _ e => by cases e⟩, .cons ?_ .nil, h, fun v H' ⟨F', m', rv, E, M, R, q⟩ => ?_⟩
  · rw [Rep]
    exact ⟨a, _, rfl, hS, .of_ints⟩
  · subst q
    exact rep_bl_inv (show Rep K F' (.bl true) v from R)
end
end Pd
/-! Pd: walking: calls, loops, comprehensions. -/
namespace Pd
open PySem PySem.Spec PyProof.Rows L2
theorem callN_succ {T : List Fn} {cs : List D} {n f : Nat} {ds : List D} {m : Mu} {Q : QX} {F : Fn} (e : T[f]? = some F) (l : ds.length = F.np)
    (h : exs (callN T cs n) cs F.body { m0 := m, nx := fun _ m' => Q (.d .non) m', rt := Q } (ds.map SV.fz ++ List.replicate (F.ns - F.np) SV.un) m) : callN T cs (n + 1) f ds m Q := by
  rw [callN_s]
  exact ⟨F, e, l, h⟩
section
variable {f : En → Ro → Mu → Prop} {g : Tg} {E : En}
/-- a loop by an invariant -/
theorem forL_at (P : Nat → Ro → Mu → Prop) : ∀ (ds : List D) (i : Nat) (r : Ro) (m : Mu), P i r m →
    (∀ (j : Nat) d r m (k : Ro → Mu → Prop), ds[j]? = some d → P (i + j) r m → (∀ r' m', P (i + j + 1) r' m' → k r' m') → tgR g d r fun r1 => f { E with nx := k, ct := k, bk := E.nx } r1 m) →
    (∀ r m, P (i + ds.length) r m → E.nx r m) → forL f g ds E r m
  | [], i, r, m, h, _, z => z r m h
  | d :: ds, i, r, m, h, s, z => by
    refine s 0 d r m (forL f g ds E) rfl h fun r' m' h' => ?_
    refine forL_at P ds (i + 1) r' m' h' (fun j d r m k e p q => ?_) fun r m p => z r m ?_
    · have e1 : i + 1 + j = i + (j + 1) := by omega
      rw [e1] at p q
      exact s (j + 1) d r m k (by simpa using e) p q
    · have e1 : i + (d :: ds).length = i + 1 + ds.length := by simp; omega
      rw [e1]
      exact p
theorem forL_inv (P : Nat → Ro → Mu → Prop) {ds : List D} {r : Ro} {m : Mu} (h : P 0 r m)
    (s : ∀ (j : Nat) d r m (k : Ro → Mu → Prop), ds[j]? = some d → P j r m → (∀ r' m', P (j + 1) r' m' → k r' m') → tgR g d r fun r1 => f { E with nx := k, ct := k, bk := E.nx } r1 m)
    (z : ∀ r m, P ds.length r m → E.nx r m) : forL f g ds E r m :=
  forL_at P ds 0 r m h (fun j d r m k e p q => s j d r m k e (by simpa using p) (by simpa using q)) (by simpa using z)
theorem rng_get {lo hi : Int} {j : Nat} {d : D} (e : (rngD lo hi)[j]? = some d) : d = .int (lo + (j : Int)) ∧ j < (hi - lo).toNat := by
  unfold rngD at e
  rw [List.getElem?_map] at e
  have hj : j < (hi - lo).toNat := by
    by_cases h : j < (hi - lo).toNat
    · exact h
    · rw [List.getElem?_eq_none (by simpa using h)] at e
      cases e
  rw [List.getElem?_range hj] at e
  cases e
  exact ⟨rfl, hj⟩
theorem rng_len {lo hi : Int} : (rngD lo hi).length = (hi - lo).toNat := by simp [rngD]
/-- over a range -/
theorem forL_rng (P : Nat → Ro → Mu → Prop) {lo hi : Int} {r : Ro} {m : Mu} (h : P 0 r m)
    (s : ∀ (j : Nat) r m (k : Ro → Mu → Prop), j < (hi - lo).toNat → P j r m → (∀ r' m', P (j + 1) r' m' → k r' m') → tgR g (.int (lo + (j : Int))) r fun r1 => f { E with nx := k, ct := k, bk := E.nx } r1 m)
    (z : ∀ r m, P (hi - lo).toNat r m → E.nx r m) : forL f g (rngD lo hi) E r m :=
  forL_inv P h (fun j d r m k e p q => by
    obtain ⟨rfl, hj⟩ := rng_get e
    exact s j r m k hj p q) (by rw [rng_len]; exact z)
end
section
variable {g : Tg} {own : List Nat} {t : Ro → Mu → (Bool → Mu → Prop) → Prop} {e : Ro → Mu → (D → Mu → Prop) → Prop} {r : Ro}
/-- a comprehension by an invariant -/
theorem compL_inv (P : Nat → List D → Mu → Prop) : ∀ (ds : List D) (i : Nat) (acc : List D) (m : Mu) (Q : List D → Mu → Prop), P i acc m →
    (∀ (j : Nat) d acc m (k : List D → Mu → Prop), ds[j]? = some d → P (i + j) acc m → (∀ acc' m', P (i + j + 1) acc' m' → k acc' m') → tgR g d (wipeR r own) fun r2 => t r2 m fun b m1 => if b = true then e r2 m1 fun d m2 => acc.length < sizeLine ∧ k (acc ++ [d]) m2 else k acc m1) →
    (∀ acc m, P (i + ds.length) acc m → Q acc m) → compL g own t e r ds acc m Q
  | [], i, acc, m, Q, h, _, z => z acc m h
  | d :: ds, i, acc, m, Q, h, s, z => by
    refine s 0 d acc m (fun acc m => compL g own t e r ds acc m Q) rfl h fun acc' m' h' => ?_
    refine compL_inv P ds (i + 1) acc' m' Q h' (fun j d r m k e p q => ?_) fun r m p => z r m ?_
    · have e1 : i + 1 + j = i + (j + 1) := by omega
      rw [e1] at p q
      exact s (j + 1) d r m k (by simpa using e) p q
    · have e1 : i + (d :: ds).length = i + 1 + ds.length := by simp; omega
      rw [e1]
      exact p
/-- .. of a plain function -/
theorem compL_map {F : D → D} {ds : List D} {m : Mu} {Q : List D → Mu → Prop} (hl : ds.length ≤ sizeLine)
    (s : ∀ d ∈ ds, ∀ (k : D → Mu → Prop), k (F d) m → tgR g d (wipeR r own) fun r2 => e r2 m k) (z : Q (ds.map F) m) : compL g own (tAll []) e r ds [] m Q := by
  refine compL_inv (fun i acc m' => m' = m ∧ acc = (ds.take i).map F ∧ i ≤ ds.length) ds 0 [] m Q ⟨rfl, by simp, Nat.zero_le _⟩ (fun j d acc m' k ed ⟨em, ea, _⟩ q => ?_) fun acc m' ⟨em, ea, _⟩ => ?_
  · subst em
    have hj := (List.getElem?_eq_some_iff.mp ed).1
    have hm := List.mem_of_getElem? ed
    refine s d hm (fun d m2 => acc.length < sizeLine ∧ k (acc ++ [d]) m2) ⟨?_, q _ _ ⟨rfl, ?_, by omega⟩⟩
    · rw [ea]; simp; omega
    · rw [ea, Nat.zero_add, List.take_succ, ed, List.map_append]
      rfl
  · subst em
    rw [ea]
    simpa using z
/-- .. over a range -/
theorem compL_rng {F : Nat → D} {lo hi : Int} {m : Mu} {Q : List D → Mu → Prop} (hl : (hi - lo).toNat ≤ sizeLine)
    (s : ∀ j, j < (hi - lo).toNat → ∀ (k : D → Mu → Prop), k (F j) m → tgR g (.int (lo + (j : Int))) (wipeR r own) fun r2 => e r2 m k) (z : Q ((List.range (hi - lo).toNat).map F) m) : compL g own (tAll []) e r (rngD lo hi) [] m Q := by
  refine compL_inv (fun i acc m' => m' = m ∧ acc = (List.range i).map F) (rngD lo hi) 0 [] m Q ⟨rfl, by simp⟩ (fun j d acc m' k ed ⟨em, ea⟩ q => ?_) fun acc m' ⟨em, ea⟩ => ?_
  · subst em
    obtain ⟨rfl, hj⟩ := rng_get ed
    refine s j hj (fun d m2 => acc.length < sizeLine ∧ k (acc ++ [d]) m2) ⟨?_, q _ _ ⟨rfl, ?_⟩⟩
    · rw [ea]; simp; omega
    · rw [ea, Nat.zero_add, List.range_succ, List.map_append]
      rfl
  · subst em
    rw [ea, Nat.zero_add, rng_len]
    exact z
/-- a dict's comprehension by an invariant -/
theorem dcompL_inv {e : Ro → Mu → (D → D → Mu → Prop) → Prop} (P : Nat → D → Mu → Prop) : ∀ (ds : List D) (i : Nat) (acc : D) (m : Mu) (Q : D → Mu → Prop), P i acc m →
    (∀ (j : Nat) d acc m (k : D → Mu → Prop), ds[j]? = some d → P (i + j) acc m → (∀ acc' m', P (i + j + 1) acc' m' → k acc' m') → tgR g d (wipeR r own) fun r2 => t r2 m fun b m1 => if b = true then e r2 m1 fun kd d m2 => ∃ acc2, dlen acc < sizeLine ∧ dput acc kd d = some acc2 ∧ k acc2 m2 else k acc m1) →
    (∀ acc m, P (i + ds.length) acc m → Q acc m) → dcompL g own t e r ds acc m Q
  | [], i, acc, m, Q, h, _, z => z acc m h
  | d :: ds, i, acc, m, Q, h, s, z => by
    refine s 0 d acc m (fun acc m => dcompL g own t e r ds acc m Q) rfl h fun acc' m' h' => ?_
    refine dcompL_inv P ds (i + 1) acc' m' Q h' (fun j d r m k e p q => ?_) fun r m p => z r m ?_
    · have e1 : i + 1 + j = i + (j + 1) := by omega
      rw [e1] at p q
      exact s (j + 1) d r m k (by simpa using e) p q
    · have e1 : i + (d :: ds).length = i + 1 + ds.length := by simp; omega
      rw [e1]
      exact p
end
/-! ### ranges from 0 -/
theorem rng0_get {hi : Int} {j : Nat} {d : D} (e : (rngD 0 hi)[j]? = some d) : d = .int (j : Int) ∧ j < hi.toNat := by
  obtain ⟨h1, h2⟩ := rng_get e
  exact ⟨by rw [h1, Int.zero_add], by simpa using h2⟩
theorem rng0_len {hi : Int} : (rngD 0 hi).length = hi.toNat := by simp [rngD]
theorem forL_rng0 {f : En → Ro → Mu → Prop} {g : Tg} {E : En} (P : Nat → Ro → Mu → Prop) {hi : Int} {r : Ro} {m : Mu} (h : P 0 r m)
    (s : ∀ (j : Nat) r m (k : Ro → Mu → Prop), j < hi.toNat → P j r m → (∀ r' m', P (j + 1) r' m' → k r' m') → tgR g (.int (j : Int)) r fun r1 => f { E with nx := k, ct := k, bk := E.nx } r1 m)
    (z : ∀ r m, P hi.toNat r m → E.nx r m) : forL f g (rngD 0 hi) E r m :=
  forL_inv P h (fun j d r m k e p q => by
    obtain ⟨rfl, hj⟩ := rng0_get e
    exact s j r m k hj p q) (by rw [rng0_len]; exact z)
theorem compL_rng0 {g : Tg} {own : List Nat} {e : Ro → Mu → (D → Mu → Prop) → Prop} {r : Ro} {F : Nat → D} {hi : Int} {m : Mu} {Q : List D → Mu → Prop} (hl : hi.toNat ≤ sizeLine)
    (s : ∀ j, j < hi.toNat → ∀ (k : D → Mu → Prop), k (F j) m → tgR g (.int (j : Int)) (wipeR r own) fun r2 => e r2 m k) (z : Q ((List.range hi.toNat).map F) m) : compL g own (tAll []) e r (rngD 0 hi) [] m Q :=
  compL_rng (by simpa using hl) (fun j hj k q => by rw [Int.zero_add]; exact s j (by simpa using hj) k q) (by simpa using z)
/-! ### dicts' keys -/
theorem valD_some {κ : Type} [DecidableEq κ] : ∀ {ks : List κ} {ds : List D} {k : κ}, ks.length = ds.length → ((valD ks ds k).isSome = true ↔ k ∈ ks)
  | [], ds, k, _ => by simp [valD]
  | x :: ks, [], k, h => by simp at h
  | x :: ks, d :: ds, k, h => by
    have ih := valD_some (k := k) (ks := ks) (ds := ds) (by simpa using h)
    unfold valD
    by_cases e : x = k
    · simp [e]
    · rw [if_neg e, ih, List.mem_cons]
      constructor
      · exact .inr
      · rintro (z | z)
        · exact absurd z.symm e
        · exact z
theorem replD_len {κ : Type} [DecidableEq κ] (k : κ) (e : D) : ∀ (ks : List κ) (ds : List D), (replD ks ds k e).length = ds.length
  | [], ds => by simp [replD]
  | x :: ks, [] => by simp [replD]
  | x :: ks, d :: ds => by simp [replD, replD_len k e ks ds]
theorem put_len {κ : Type} [DecidableEq κ] {ks : List κ} {ds : List D} (k : κ) (e : D) (h : ks.length = ds.length) : (putKs ks k).length = (putDs ks ds k e).length ∧ (putKs ks k).length ≤ ks.length + 1 := by
  unfold putKs putDs
  by_cases hk : k ∈ ks
  · rw [if_pos hk, if_pos hk, replD_len]; exact ⟨h, by omega⟩
  · rw [if_neg hk, if_neg hk]; simp [h]
theorem mem_putKs {κ : Type} [DecidableEq κ] {ks : List κ} {k j : κ} : j ∈ putKs ks k ↔ j ∈ ks ∨ j = k := by
  unfold putKs
  by_cases hk : k ∈ ks
  · rw [if_pos hk]
    exact ⟨.inl, fun h => h.elim id fun z => z ▸ hk⟩
  · rw [if_neg hk, List.mem_append, List.mem_singleton]
end Pd
/-! Pd: the parts that all laws share: the pool and its draws. -/
namespace Pd
open PySem PySem.Spec PyProof.Rows L2
theorem mul_r {i j : Int} (h : -(2^64) < j ∧ j < 2^64) : mulOk i j := .inr (.inl h)
theorem mul_l {i j : Int} (h : -(2^64) < i ∧ i < 2^64) : mulOk i j := .inl h
theorem fmod_in {a b : Int} (h : 0 < b) : 0 ≤ a.fmod b ∧ a.fmod b < b := ⟨Int.fmod_nonneg_of_pos a h, Int.fmod_lt_of_pos a h⟩
theorem mul_mod {a b c d : Int} (hb : 0 < b ∧ b < 2 ^ 200) (hd : 0 < d ∧ d < 2 ^ 200) : mulOk (a.fmod b) (c.fmod d) := by
  have h1 := fmod_in (a := a) hb.1
  have h2 := fmod_in (a := c) hd.1
  exact .inr (.inr ⟨pow_big (k := 200) (by omega) (by decide), pow_big (k := 200) (by omega) (by decide)⟩)
theorem mul_modI {a b d : Int} (hb : 0 < b ∧ b < 2 ^ 200) (hd : d.natAbs < 2 ^ 200) : mulOk (a.fmod b) d := by
  have h1 := fmod_in (a := a) hb.1
  exact .inr (.inr ⟨pow_big (k := 200) (by omega) (by decide), pow_big (k := 200) hd (by decide)⟩)
theorem ifP {c : Bool} {A B : Prop} (h : c = true → A) (h2 : c = false → B) : if c = true then A else B := by
  cases c with
  | true => exact h rfl
  | false => exact h2 rfl
theorem ixN_in {n : Nat} {i : Int} (h0 : 0 ≤ i) (h : i < n) : ixN n i = some i.toNat := by
  unfold ixN
  have : i.toNat < n := by omega
  simp [h0, this, show ¬ i < 0 by omega, h]
theorem atI_in {α : Type} {xs : List α} {i : Int} (h0 : 0 ≤ i) (h : i < xs.length) : atI xs i = xs[i.toNat]? := by
  unfold atI
  rw [ixN_in h0 h]
  rfl
theorem atI_ints {ns : List Int} {i : Int} (h0 : 0 ≤ i) (h : i < ns.length) : ∃ v, atI (ns.map D.int) i = some (.int v) := by
  rw [atI_in h0 (by rw [List.length_map]; exact h), List.getElem?_map]
  have : i.toNat < ns.length := by omega
  rw [List.getElem?_eq_getElem this]
  exact ⟨_, rfl⟩
def bMixed : List S := [.set (.name 2) (.bin .mod (.bi .int [.bin .add (.bin .add (.bin .mul (.var 0) (.int 48271)) (.bin .mul (.var 1) (.int 69621))) (.int 11)]) (.int 618970019642690137449562111)), .set (.name 3) (.bin .mod (.bi .int [.bin .add (.bin .add (.bin .mul (.var 2) (.var 2)) (.bin .mul (.int 7) (.var 2))) (.var 1)]) (.int 162259276829213363391578010288127)), .set (.name 4) (.bin .mod (.bi .int [.bin .add (.bin .mul (.var 3) (.var 3)) (.var 2)]) (.int 618970019642690137449562111)), .ret (.bin .add (.bin .mul (.var 3) (.int 618970019642690137449562111)) (.var 4))]
def bRest (iM : Nat) : List S := [.set (.name 3) (.int 0), .ifS (.cmp .gt (.bi .len [.var 0]) (.int 0)) [.set (.name 3) (.bi .int [.ix (.var 0) (.bin .mod (.bi .int [.var 1]) (.bi .len [.var 0]))])] [], .ifS (.cmp .lt (.var 3) (.int 0)) [.set (.name 3) (.bin .sub (.int 1) (.bin .mul (.int 2) (.var 3)))] [], .ifS (.and (.eq false (.var 2) (.int 0)) (.and (.cmp .lt (.var 1) (.bi .len [.var 0])) (.cmp .ge (.var 3) (.bin .pow (.int 10) (.int 18))))) [.ret (.bin .sub (.var 3) (.bin .pow (.int 10) (.int 18)))] [], .ret (.call iM [.bin .add (.var 3) (.bin .mul (.var 2) (.int 1000003)), .var 1])]
def bPool (iR : Nat) : List S := [.ret (.lst [.var 0, .int 0, .call iR [.var 0, .int 0, .int 0], .int 0])]
def bNext (iR : Nat) : List S := [.setI 0 (.int 1) (.bin .add (.ix (.var 0) (.int 1)) (.int 1)), .setI 0 (.int 2) (.call iR [.ix (.var 0) (.int 0), .ix (.var 0) (.int 1), .int 0]), .setI 0 (.int 3) (.int 0)]
def bDraw (iR : Nat) : List S := [.ifS (.cmp .le (.ix (.var 0) (.int 2)) (.int 1)) [.setI 0 (.int 3) (.bin .add (.ix (.var 0) (.int 3)) (.int 1)), .setI 0 (.int 2) (.call iR [.ix (.var 0) (.int 0), .ix (.var 0) (.int 1), .ix (.var 0) (.int 3)])] [], .set (.name 2) (.bin .mod (.bi .int [.ix (.var 0) (.int 2)]) (.var 1)), .setI 0 (.int 2) (.bin .fdiv (.bi .int [.ix (.var 0) (.int 2)]) (.var 1)), .ret (.var 2)]
def bPick (iD : Nat) : List S := [.ret (.ix (.var 1) (.call iD [.var 0, .bi .len [.var 1]]))]
section
variable {T : List Fn} {cs : List D} {n : Nat} {m : Mu} {Q : QX} {ns : List Int}
theorem mixed_ok {f : Nat} {a b : Int} (e : T[f]? = some ⟨2, 5, bMixed⟩) (h : ∀ v, Q (.d (.int v)) m) : callN T cs (n + 1) f [.int a, .int b] m Q := by
  refine callN_succ e rfl ?_
  refine And.intro (mul_r (by decide)) (And.intro (mul_r (by decide)) (And.intro (by decide) ?_))
  refine And.intro (mul_mod (by decide) (by decide)) (And.intro (mul_l (by decide)) (And.intro (by decide) ?_))
  refine And.intro (mul_mod (by decide) (by decide)) (And.intro (by decide) ?_)
  refine And.intro (mul_modI (by decide) (by decide)) ?_
  exact h _
theorem rest_ok {f iM : Nat} {p q : Int} (e : T[f]? = some ⟨3, 4, bRest iM⟩) (eM : T[iM]? = some ⟨2, 5, bMixed⟩) (h : ∀ v, Q (.d (.int v)) m) : callN T cs (n + 2) f [.lst (ns.map .int), .int p, .int q] m Q := by
  refine callN_succ e rfl ?_
  have K2 : ∀ v : Int, exs (callN T cs (n + 1)) cs ((bRest iM).drop 3) { m0 := m, nx := fun _ m' => Q (.d .non) m', rt := Q } [.fz (.lst (ns.map .int)), .fz (.int p), .fz (.int q), .fz (.int v)] m := by
    intro v
    have K3 : callN T cs (n + 1) iM [.int (v + q * 1000003), .int p] m Q := mixed_ok eM h
    refine And.intro rfl (And.intro rfl (ifP (fun _ => ?_) fun _ => ?_))
    · refine ifP (fun _ => ?_) fun _ => ?_
      · refine And.intro (by decide) (ifP (fun _ => ?_) fun _ => ?_)
        · exact And.intro (by decide) (h _)
        · exact And.intro (mul_r (by decide)) K3
      · exact And.intro (mul_r (by decide)) K3
    · exact And.intro (mul_r (by decide)) K3
  have K1 : ∀ v : Int, exs (callN T cs (n + 1)) cs ((bRest iM).drop 2) { m0 := m, nx := fun _ m' => Q (.d .non) m', rt := Q } [.fz (.lst (ns.map .int)), .fz (.int p), .fz (.int q), .fz (.int v)] m := by
    intro v
    refine ifP (fun _ => ?_) fun _ => ?_
    · exact And.intro (mul_l (by decide)) (K2 _)
    · exact K2 v
  refine ifP (c := copB .gt ((ns.map D.int).length : Int) 0) (fun hl => ?_) fun _ => ?_
  · have hl : (0 : Int) < ((ns.map D.int).length : Int) := of_decide_eq_true hl
    have hi := fmod_in (a := p) hl
    have h1 : (p.fmod ((ns.map D.int).length : Int)) < ns.length := by have := hi.2; rw [List.length_map] at this ⊢; exact this
    obtain ⟨v, ev⟩ := atI_ints hi.1 h1
    refine And.intro (by omega) (Exists.intro _ (And.intro ev ?_))
    exact K1 v
  · exact K1 0
/-- the pool: what the law draws from -/
abbrev pool (ns : List Int) (x y z : Int) : D := .lst [.lst (ns.map .int), .int x, .int y, .int z]
abbrev pm (m : Mu) (p : Addr) (ns : List Int) (x y z : Int) : Mu := mset m p (some (pool ns x y z))
theorem pool_ok {f iR iM : Nat} (e : T[f]? = some ⟨1, 1, bPool iR⟩) (eR : T[iR]? = some ⟨3, 4, bRest iM⟩) (eM : T[iM]? = some ⟨2, 5, bMixed⟩) (h : ∀ v, Q (.o (pool ns 0 v 0)) m) : callN T cs (n + 3) f [.lst (ns.map .int)] m Q := by
  refine callN_succ e rfl ?_
  refine (show callN T cs (n + 2) iR [.lst (ns.map .int), .int 0, .int 0] m _ from rest_ok eR eM fun v => ?_)
  exact And.intro (by show 4 ≤ sizeLine; decide) (h v)
theorem sees_cell {r : Ro} {m : Mu} {p : Addr} {c : D} {P : D → Prop} (e : m p = some c) (h : P c) : sees r m (.d (.cell p)) P := by
  show (match m p with | some c => P c | none => False)
  rw [e]
  exact h
theorem next_ok {f iR iM : Nat} {p : Addr} {x y z : Int} (e : T[f]? = some ⟨1, 1, bNext iR⟩) (eR : T[iR]? = some ⟨3, 4, bRest iM⟩) (eM : T[iM]? = some ⟨2, 5, bMixed⟩) (hm : m p = some (pool ns x y z)) (h : ∀ x' y' z', Q (.d .non) (mset m p (some (pool ns x' y' z')))) : callN T cs (n + 3) f [.cell p] m Q := by
  refine callN_succ e rfl ?_
  refine sees_cell hm (Exists.intro _ (And.intro rfl ?_))
  refine sees_cell hm (Exists.intro _ (Exists.intro _ (And.intro rfl (And.intro rfl ?_))))
  refine sees_cell mset_same (Exists.intro _ (And.intro rfl ?_))
  refine sees_cell mset_same (Exists.intro _ (And.intro rfl ?_))
  refine (show callN T cs (n + 2) iR [.lst (ns.map .int), .int (x + 1), .int 0] _ _ from rest_ok eR eM fun v => ?_)
  refine sees_cell mset_same (Exists.intro _ (Exists.intro _ (And.intro rfl (And.intro rfl ?_))))
  refine sees_cell mset_same (Exists.intro _ (Exists.intro _ (And.intro rfl (And.intro rfl ?_))))
  show Q (.d .non) (mset (mset (mset m p _) p _) p _)
  rw [mset_mset, mset_mset]
  exact h _ _ _
theorem draw_ok {f iR iM : Nat} {p : Addr} {x y z l : Int} (e : T[f]? = some ⟨2, 3, bDraw iR⟩) (eR : T[iR]? = some ⟨3, 4, bRest iM⟩) (eM : T[iM]? = some ⟨2, 5, bMixed⟩) (hm : m p = some (pool ns x y z)) (hl : 0 < l ∧ l < 2 ^ 62) (h : ∀ v x' y' z', 0 ≤ v → v < l → Q (.d (.int v)) (mset m p (some (pool ns x' y' z')))) : callN T cs (n + 3) f [.cell p, .int l] m Q := by
  refine callN_succ e rfl ?_
  have hd : divOk l := .inl ⟨hl.1, pow_big (k := 62) (by omega) (by decide)⟩
  have hl0 : l ≠ 0 := by omega
  have K : ∀ (m1 : Mu) (y z : Int), m1 p = some (pool ns x y z) → (∀ c, mset m1 p c = mset m p c) → exs (callN T cs (n + 2)) cs ((bDraw iR).drop 1) { m0 := m, nx := fun _ m' => Q (.d .non) m', rt := Q } [.fz (.cell p), .fz (.int l), .un] m1 := by
    intro m1 y z h1 hmm
    refine sees_cell h1 (Exists.intro _ (And.intro rfl (And.intro hl0 ?_)))
    refine sees_cell h1 (Exists.intro _ (And.intro rfl (And.intro hd ?_)))
    refine sees_cell h1 (Exists.intro _ (Exists.intro _ (And.intro rfl (And.intro rfl ?_))))
    show Q (.d (.int (y.fmod l))) (mset m1 p _)
    rw [hmm]
    exact h _ _ _ _ (fmod_in hl.1).1 (fmod_in hl.1).2
  refine sees_cell hm (Exists.intro _ (And.intro rfl (ifP (fun _ => ?_) fun _ => ?_)))
  · refine sees_cell hm (Exists.intro _ (And.intro rfl ?_))
    refine sees_cell hm (Exists.intro _ (Exists.intro _ (And.intro rfl (And.intro rfl ?_))))
    refine sees_cell mset_same (Exists.intro _ (And.intro rfl ?_))
    refine sees_cell mset_same (Exists.intro _ (And.intro rfl ?_))
    refine sees_cell mset_same (Exists.intro _ (And.intro rfl ?_))
    refine (show callN T cs (n + 2) iR [.lst (ns.map .int), .int x, .int (z + 1)] _ _ from rest_ok eR eM fun v => ?_)
    refine sees_cell mset_same (Exists.intro _ (Exists.intro _ (And.intro rfl (And.intro rfl ?_))))
    exact K (mset (mset m p _) p _) _ _ mset_same fun c => by rw [mset_mset, mset_mset]
  · exact K m y z hm fun _ => rfl
/-! ### the pool as an invariant -/
def PI (m0 : Mu) (p : Addr) (ns : List Int) (m : Mu) : Prop := ∃ x y z, m = mset m0 p (some (pool ns x y z))
theorem PI.at {m0 m : Mu} {p : Addr} {ns : List Int} (h : PI m0 p ns m) : ∃ x y z, m p = some (pool ns x y z) := by
  obtain ⟨x, y, z, rfl⟩ := h
  exact ⟨x, y, z, mset_same⟩
theorem PI.set {m0 m : Mu} {p : Addr} {ns : List Int} (h : PI m0 p ns m) (x y z : Int) : PI m0 p ns (mset m p (some (pool ns x y z))) := by
  obtain ⟨x', y', z', rfl⟩ := h
  exact ⟨x, y, z, mset_mset⟩
variable {m0 : Mu} {p : Addr}
theorem next_pi {f iR iM : Nat} (e : T[f]? = some ⟨1, 1, bNext iR⟩) (eR : T[iR]? = some ⟨3, 4, bRest iM⟩) (eM : T[iM]? = some ⟨2, 5, bMixed⟩) (hm : PI m0 p ns m) (h : ∀ m', PI m0 p ns m' → Q (.d .non) m') : callN T cs (n + 3) f [.cell p] m Q := by
  obtain ⟨x, y, z, e1⟩ := hm.at
  exact next_ok e eR eM e1 fun x' y' z' => h _ (hm.set _ _ _)
theorem draw_pi {f iR iM : Nat} {l : Int} (e : T[f]? = some ⟨2, 3, bDraw iR⟩) (eR : T[iR]? = some ⟨3, 4, bRest iM⟩) (eM : T[iM]? = some ⟨2, 5, bMixed⟩) (hm : PI m0 p ns m) (hl : 0 < l ∧ l < 2 ^ 62) (h : ∀ v m', 0 ≤ v → v < l → PI m0 p ns m' → Q (.d (.int v)) m') : callN T cs (n + 3) f [.cell p, .int l] m Q := by
  obtain ⟨x, y, z, e1⟩ := hm.at
  exact draw_ok e eR eM e1 hl fun v x' y' z' h0 h1 => h v _ h0 h1 (hm.set _ _ _)
/-! ### the comparison, first form -/
def bSame (f : Nat) : List S := [.ifS (.isN false (.var 1)) [.ret (.isN false (.var 0))] [], .ifS (.isB false true (.var 1)) [.ret (.isB false true (.var 0))] [], .ifS (.isB false false (.var 1)) [.ret (.isB false false (.var 0))] [], .ifS (.isi .int (.var 1)) [.ret (.and (.isi .int (.var 0)) (.and (.not (.isi .bool (.var 0))) (.eq false (.var 0) (.var 1))))] [], .ifS (.isi .str (.var 1)) [.ret (.and (.isi .str (.var 0)) (.eq false (.var 0) (.var 1)))] [], .ifS (.isi .dict (.var 1)) [.ifS (.or (.not (.isi .dict (.var 0))) (.eq true (.bi .len [.var 0]) (.bi .len [.var 1]))) [.ret (.bl false)] [], .forS (.name 3) (.var 1) [.ifS (.or (.isin true (.var 3) (.var 0)) (.not (.call f [.ix (.var 0) (.var 3), .ix (.var 1) (.var 3)]))) [.ret (.bl false)] []], .ret (.bl true)] [], .ifS (.or (.eq true (.isi .tuple (.var 0)) (.isi .tuple (.var 1))) (.eq true (.isi .list (.var 0)) (.isi .list (.var 1)))) [.ret (.bl false)] [], .ifS (.eq true (.bi .len [.var 0]) (.bi .len [.var 1])) [.ret (.bl false)] [], .forS (.name 2) (.rng [.bi .len [.var 1]]) [.ifS (.not (.call f [.ix (.var 0) (.var 2), .ix (.var 1) (.var 2)])) [.ret (.bl false)] []], .ret (.bl true)]
/-- data that can be compared: no dicts, lengths below a bound, not deeper than k -/
def cmpD : Nat → D → Bool
  | _, .non | _, .bl _ | _, .int _ | _, .str _ => true
  | k + 1, .lst ds => decide (ds.length < 2 ^ 62) && ds.all (cmpD k)
  | k + 1, .tup _ ds => decide (ds.length < 2 ^ 62) && ds.all (cmpD k)
  | _, _ => false
theorem eqD_int (i : Int) : eqD (.int i) (.int i) = true := by simp [eqD]
theorem eqD_str (i : Str) : eqD (.str i) (.str i) = true := by simp [eqD]
theorem atI_nat {α : Type} {xs : List α} {j : Nat} {x : α} (e : xs[j]? = some x) : atI xs (0 + (j : Int)) = some x := by
  have hj := (List.getElem?_eq_some_iff.mp e).1
  rw [atI_in (by omega) (by omega)]
  simpa using e
theorem same_ok {f : Nat} (e : T[f]? = some ⟨2, 4, bSame f⟩) : ∀ (k : Nat) (d : D) (n : Nat) (m : Mu) (Q : QX), cmpD k d = true → Q (.d (.bl true)) m → callN T cs (n + k + 1) f [d, d] m Q := by
  have seq : ∀ (k n : Nat) (ds : List D) (x : D) (m : Mu) (E : En), (∀ d ∈ ds, ∀ (m : Mu) (Q : QX), Q (.d (.bl true)) m → callN T cs (n + k) f [d, d] m Q) → ds.length < 2 ^ 62 → (x = .lst ds ∨ ∃ b, x = .tup b ds) → E.rt (.d (.bl true)) m →
      forL (exs (callN T cs (n + k)) cs [.ifS (.not (.call f [.ix (.var 0) (.var 2), .ix (.var 1) (.var 2)])) [.ret (.bl false)] []]) (.name 2) (rngD 0 (ds.length : Int)) { E with nx := exs (callN T cs (n + k)) cs [.ret (.bl true)] E } [.fz x, .fz x, .un, .un] m := by
    intro k n ds x m E ih hl hx hQ
    refine forL_rng (fun _ r m' => m' = m ∧ ∃ y, r = [.fz x, .fz x, y, .un]) ⟨rfl, _, rfl⟩ (fun j r m1 K hj hP q => ?_) fun r m1 hP => ?_
    · obtain ⟨rfl, y, rfl⟩ := hP
      have hj' : j < ds.length := by omega
      have ej : ds[j]? = some ds[j] := List.getElem?_eq_getElem hj'
      rcases hx with rfl | ⟨b, rfl⟩
      all_goals
        refine Exists.intro _ (And.intro (atI_nat ej) (Exists.intro _ (And.intro (atI_nat ej) ?_)))
        refine (show callN T cs (n + k) f [ds[j], ds[j]] m1 _ from ih _ (List.getElem_mem hj') _ _ ?_)
        exact q _ _ ⟨rfl, _, rfl⟩
    · obtain ⟨rfl, y, rfl⟩ := hP
      exact hQ
  have flat : ∀ (d : D) (n : Nat) (m : Mu) (Q : QX), (d = .non ∨ (∃ b, d = .bl b) ∨ (∃ i, d = .int i) ∨ ∃ x, d = .str x) → Q (.d (.bl true)) m → callN T cs (n + 1) f [d, d] m Q := by
    intro d n m Q h hQ
    refine callN_succ e rfl ?_
    rcases h with rfl | ⟨b, rfl⟩ | ⟨i, rfl⟩ | ⟨x, rfl⟩
    · exact hQ
    · cases b <;> exact hQ
    · repeat (first | refine And.intro rfl ?_ | refine Exists.intro _ (And.intro rfl ?_))
      show Q (.d (.bl (eqD (.int i) (.int i)))) m
      rw [eqD_int]
      exact hQ
    · repeat (first | refine And.intro rfl ?_ | refine Exists.intro _ (And.intro rfl ?_))
      show Q (.d (.bl (eqD (.str x) (.str x)))) m
      rw [eqD_str]
      exact hQ
  have deep : ∀ (k n : Nat) (ds : List D) (x : D) (m : Mu) (Q : QX), (∀ d ∈ ds, ∀ (m : Mu) (Q : QX), Q (.d (.bl true)) m → callN T cs (n + k) f [d, d] m Q) → ds.length < 2 ^ 62 → (x = .lst ds ∨ ∃ b, x = .tup b ds) → Q (.d (.bl true)) m → callN T cs (n + k + 1) f [x, x] m Q := by
    intro k n ds x m Q ih hl hx hQ
    refine callN_succ e rfl ?_
    have go := seq k n ds x m { m0 := m, nx := fun _ m' => Q (.d .non) m', rt := Q } ih hl hx hQ
    rcases hx with rfl | ⟨b, rfl⟩
    all_goals
      repeat (first | refine And.intro rfl ?_ | refine Exists.intro _ (And.intro rfl ?_))
      refine ifP (fun h => ?_) fun _ => ?_
      · have h : (!eqD (.int (ds.length : Int)) (.int (ds.length : Int))) = true := h
        rw [eqD_int] at h
        cases h
      · exact And.intro ⟨by omega, by omega⟩ go
  intro k
  induction k with
  | zero =>
    intro d n m Q h hQ
    refine flat d n m Q ?_ hQ
    cases d with
    | non => exact .inl rfl
    | bl b => exact .inr (.inl ⟨b, rfl⟩)
    | int b => exact .inr (.inr (.inl ⟨b, rfl⟩))
    | str b => exact .inr (.inr (.inr ⟨b, rfl⟩))
    | _ => cases h
  | succ k ih =>
    intro d n m Q h hQ
    cases d with
    | lst ds =>
      have h : (decide (ds.length < 2 ^ 62) && ds.all (cmpD k)) = true := h
      simp only [Bool.and_eq_true, decide_eq_true_eq, List.all_eq_true] at h
      exact deep (k + 1) n ds _ m Q (fun d hd m Q q => ih d n m Q (h.2 d hd) q) h.1 (.inl rfl) hQ
    | tup b ds =>
      have h : (decide (ds.length < 2 ^ 62) && ds.all (cmpD k)) = true := h
      simp only [Bool.and_eq_true, decide_eq_true_eq, List.all_eq_true] at h
      exact deep (k + 1) n ds _ m Q (fun d hd m Q q => ih d n m Q (h.2 d hd) q) h.1 (.inr ⟨b, rfl⟩) hQ
    | non => exact flat _ (n + (k + 1)) m Q (.inl rfl) hQ
    | bl b => exact flat _ (n + (k + 1)) m Q (.inr (.inl ⟨b, rfl⟩)) hQ
    | int b => exact flat _ (n + (k + 1)) m Q (.inr (.inr (.inl ⟨b, rfl⟩))) hQ
    | str b => exact flat _ (n + (k + 1)) m Q (.inr (.inr (.inr ⟨b, rfl⟩))) hQ
    | _ => cases h
end
end Pd
/-! k41: the program as a term. -/
namespace Lk41
open PySem Pd
/-- power(k); slots: 0=k; own: ; cells:  -/
def b_power : List S := [.ret (.bin .shl (.int 1) (.var 0))]
def n_power : List Str := ["k"]
/-- folded_at(n, i, r); slots: 0=n 1=i 2=r 3=_; own: ; cells:  -/
def b_folded_at : List S := [.forS (.name 3) (.rng [.var 1]) [.set (.name 2) (.bi .min2 [.var 2, .bin .sub (.bin .sub (.var 0) (.int 1)) (.var 2)]), .set (.name 0) (.bin .fdiv (.var 0) (.int 2))], .ret (.var 2)]
def n_folded_at : List Str := ["n", "i", "r", "_"]
/-- unfolded(a, b, i, j, places); slots: 0=a 1=b 2=i 3=j 4=places 5=own 6=rows 7=columns 8=place 9=r 10=c 11=row 12=column; own: ; cells:  -/
def b_unfolded : List S := [.set (.name 5) (.dcomp true (.name 8) [8] (.var 4) [] (.var 8) (.bl true)), .set (.name 6) (.comp (.name 9) [9] (.rng [.call 0 [.var 0]]) [] (.call 1 [.call 0 [.var 0], .var 2, .var 9])), .set (.name 7) (.comp (.name 10) [10] (.rng [.call 0 [.var 1]]) [] (.call 1 [.call 0 [.var 1], .var 3, .var 10])), .ret (.comp (.name 11) [11] (.var 6) [] (.comp (.name 12) [12] (.var 7) [] (.bi .int [.isin false (.tup [.var 11, .var 12]) (.var 5)])))]
def n_unfolded : List Str := ["a", "b", "i", "j", "places", "own", "rows", "columns", "place", "r", "c", "row", "column"]
/-- _law_mixed(number, place); slots: 0=number 1=place 2=first 3=second 4=third; own: ; cells:  -/
def b__law_mixed : List S := [.set (.name 2) (.bin .mod (.bi .int [.bin .add (.bin .add (.bin .mul (.var 0) (.int 48271)) (.bin .mul (.var 1) (.int 69621))) (.int 11)]) (.int 618970019642690137449562111)), .set (.name 3) (.bin .mod (.bi .int [.bin .add (.bin .add (.bin .mul (.var 2) (.var 2)) (.bin .mul (.int 7) (.var 2))) (.var 1)]) (.int 162259276829213363391578010288127)), .set (.name 4) (.bin .mod (.bi .int [.bin .add (.bin .mul (.var 3) (.var 3)) (.var 2)]) (.int 618970019642690137449562111)), .ret (.bin .add (.bin .mul (.var 3) (.int 618970019642690137449562111)) (.var 4))]
def n__law_mixed : List Str := ["number", "place", "first", "second", "third"]
/-- _law_rest(script, place, fills); slots: 0=script 1=place 2=fills 3=number; own: ; cells:  -/
def b__law_rest : List S := [.set (.name 3) (.int 0), .ifS (.cmp .gt (.bi .len [.var 0]) (.int 0)) [.set (.name 3) (.bi .int [.ix (.var 0) (.bin .mod (.bi .int [.var 1]) (.bi .len [.var 0]))])] [], .ifS (.cmp .lt (.var 3) (.int 0)) [.set (.name 3) (.bin .sub (.int 1) (.bin .mul (.int 2) (.var 3)))] [], .ifS (.and (.eq false (.var 2) (.int 0)) (.and (.cmp .lt (.var 1) (.bi .len [.var 0])) (.cmp .ge (.var 3) (.bin .pow (.int 10) (.int 18))))) [.ret (.bin .sub (.var 3) (.bin .pow (.int 10) (.int 18)))] [], .ret (.call 3 [.bin .add (.var 3) (.bin .mul (.var 2) (.int 1000003)), .var 1])]
def n__law_rest : List Str := ["script", "place", "fills", "number"]
/-- _law_pool(script); slots: 0=script; own: ; cells:  -/
def b__law_pool : List S := [.ret (.lst [.var 0, .int 0, .call 4 [.var 0, .int 0, .int 0], .int 0])]
def n__law_pool : List Str := ["script"]
/-- _law_next(pool); slots: 0=pool; own: ; cells: pool -/
def b__law_next : List S := [.setI 0 (.int 1) (.bin .add (.ix (.var 0) (.int 1)) (.int 1)), .setI 0 (.int 2) (.call 4 [.ix (.var 0) (.int 0), .ix (.var 0) (.int 1), .int 0]), .setI 0 (.int 3) (.int 0)]
def n__law_next : List Str := ["pool"]
/-- _law_draw(pool, limit); slots: 0=pool 1=limit 2=value; own: ; cells: pool -/
def b__law_draw : List S := [.ifS (.cmp .le (.ix (.var 0) (.int 2)) (.int 1)) [.setI 0 (.int 3) (.bin .add (.ix (.var 0) (.int 3)) (.int 1)), .setI 0 (.int 2) (.call 4 [.ix (.var 0) (.int 0), .ix (.var 0) (.int 1), .ix (.var 0) (.int 3)])] [], .set (.name 2) (.bin .mod (.bi .int [.ix (.var 0) (.int 2)]) (.var 1)), .setI 0 (.int 2) (.bin .fdiv (.bi .int [.ix (.var 0) (.int 2)]) (.var 1)), .ret (.var 2)]
def n__law_draw : List Str := ["pool", "limit", "value"]
/-- _law_sheet(pool); slots: 0=pool 1=a 2=b; own: ; cells: pool -/
def b__law_sheet : List S := [.set (.name 1) (.call 7 [.var 0, .int 4]), .set (.name 2) (.call 7 [.var 0, .int 4]), .ret (.tup [.var 1, .var 2, .call 7 [.var 0, .bin .add (.var 1) (.int 1)], .call 7 [.var 0, .bin .add (.var 2) (.int 1)]])]
def n__law_sheet : List Str := ["pool", "a", "b"]
/-- _law_half_power(k); slots: 0=k 1=found 2=step; own: ; cells:  -/
def b__law_half_power : List S := [.set (.name 1) (.int 1), .forS (.name 2) (.rng [.var 0]) [.set (.name 1) (.bin .mul (.int 2) (.var 1))], .ret (.var 1)]
def n__law_half_power : List Str := ["k", "found", "step"]
/-- _law_same(actual, due); slots: 0=actual 1=due 2=k 3=key; own: ; cells:  -/
def b__law_same : List S := [.ifS (.isN false (.var 1)) [.ret (.isN false (.var 0))] [], .ifS (.isB false true (.var 1)) [.ret (.isB false true (.var 0))] [], .ifS (.isB false false (.var 1)) [.ret (.isB false false (.var 0))] [], .ifS (.isi .int (.var 1)) [.ret (.and (.isi .int (.var 0)) (.and (.not (.isi .bool (.var 0))) (.eq false (.var 0) (.var 1))))] [], .ifS (.isi .str (.var 1)) [.ret (.and (.isi .str (.var 0)) (.eq false (.var 0) (.var 1)))] [], .ifS (.isi .dict (.var 1)) [.ifS (.or (.not (.isi .dict (.var 0))) (.eq true (.bi .len [.var 0]) (.bi .len [.var 1]))) [.ret (.bl false)] [], .forS (.name 3) (.var 1) [.ifS (.or (.isin true (.var 3) (.var 0)) (.not (.call 10 [.ix (.var 0) (.var 3), .ix (.var 1) (.var 3)]))) [.ret (.bl false)] []], .ret (.bl true)] [], .ifS (.or (.eq true (.isi .tuple (.var 0)) (.isi .tuple (.var 1))) (.eq true (.isi .list (.var 0)) (.isi .list (.var 1)))) [.ret (.bl false)] [], .ifS (.eq true (.bi .len [.var 0]) (.bi .len [.var 1])) [.ret (.bl false)] [], .forS (.name 2) (.rng [.bi .len [.var 1]]) [.ifS (.not (.call 10 [.ix (.var 0) (.var 2), .ix (.var 1) (.var 2)])) [.ret (.bl false)] []], .ret (.bl true)]
def n__law_same : List Str := ["actual", "due", "k", "key"]
/-- _law_at_row(n, i, r); slots: 0=n 1=i 2=r 3=k; own: ; cells:  -/
def b__law_at_row : List S := [.forS (.name 3) (.rng [.var 1]) [.ifS (.cmp .ge (.var 2) (.bin .fdiv (.var 0) (.int 2))) [.set (.name 2) (.bin .sub (.bin .sub (.var 0) (.int 1)) (.var 2))] [], .set (.name 0) (.bin .fdiv (.var 0) (.int 2))], .ret (.var 2)]
def n__law_at_row : List Str := ["n", "i", "r", "k"]
/-- _law_snips(pool, rows, columns); slots: 0=pool 1=rows 2=columns 3=found 4=r 5=c; own: ; cells: pool -/
def b__law_snips : List S := [.set (.name 3) (.lst []), .forS (.name 4) (.rng [.var 1]) [.ifS (.eq false (.bin .mod (.bi .int [.var 4]) (.int 2)) (.int 1)) [.exprS (.call 6 [.var 0])] [], .set (.name 3) (.bin .add (.var 3) (.comp (.name 5) [5] (.rng [.var 2]) [.eq false (.call 7 [.var 0, .int 3]) (.int 0)] (.tup [.var 4, .var 5])))], .ret (.var 3)]
def n__law_snips : List Str := ["pool", "rows", "columns", "found", "r", "c"]
/-- _law_mixed_up(pool, items); slots: 0=pool 1=items 2=left 3=found 4=k; own: found left; cells: pool -/
def b__law_mixed_up : List S := [.setO 2 (.bi .list [.var 1]), .setO 3 (.lst []), .forS (.name 4) (.rng [.bi .len [.var 1]]) [.appPop 3 2 [.call 7 [.var 0, .bi .len [.var 2]]]], .retO 3]
def n__law_mixed_up : List Str := ["pool", "items", "left", "found", "k"]
/-- _law_picture(a, b, i, j, places); slots: 0=a 1=b 2=i 3=j 4=places 5=n 6=m 7=r 8=c; own: ; cells:  -/
def b__law_picture : List S := [.set (.name 5) (.call 9 [.var 0]), .set (.name 6) (.call 9 [.var 1]), .ret (.comp (.name 7) [7] (.rng [.var 5]) [] (.comp (.name 8) [8] (.rng [.var 6]) [] (.bi .int [.isin false (.tup [.call 11 [.var 5, .var 2, .var 7], .call 11 [.var 6, .var 3, .var 8]]) (.var 4)])))]
def n__law_picture : List Str := ["a", "b", "i", "j", "places", "n", "m", "r", "c"]
/-- law(script); slots: 0=script 1=pool 2=turn 3=n 4=m 5=r 6=rows 7=place 8=places 9=told 10=a 11=b 12=i 13=j 14=row; own: ; cells: pool -/
def b_law : List S := [.setC 1 (.call 5 [.var 0]), .forS (.name 2) (.rng [.int 3]) [.exprS (.call 6 [.var 1]), .set (.tup [10, 11, 12, 13]) (.call 8 [.var 1]), .set (.name 3) (.call 9 [.var 10]), .set (.name 4) (.call 9 [.var 11]), .forS (.name 5) (.rng [.var 3]) [.ifS (.not (.call 10 [.call 1 [.var 3, .var 12, .var 5], .call 11 [.var 3, .var 12, .var 5]])) [.ret (.bl false)] [], .ifS (.and (.cmp .lt (.var 12) (.var 10)) (.eq true (.call 1 [.bin .fdiv (.var 3) (.call 9 [.var 12]), .int 1, .call 1 [.var 3, .var 12, .var 5]]) (.call 1 [.var 3, .bin .add (.var 12) (.int 1), .var 5]))) [.ret (.bl false)] []], .set (.name 6) (.bin .fdiv (.var 3) (.call 9 [.var 12])), .forS (.name 7) (.rng [.var 6]) [.ifS (.eq true (.bi .len [.comp (.name 5) [5] (.rng [.var 3]) [.eq false (.call 1 [.var 3, .var 12, .var 5]) (.var 7)] (.var 5)]) (.call 9 [.var 12])) [.ret (.bl false)] []], .set (.name 8) (.call 12 [.var 1, .var 6, .bin .fdiv (.var 4) (.call 9 [.var 13])]), .set (.name 9) (.call 2 [.var 10, .var 11, .var 12, .var 13, .call 13 [.var 1, .var 8]]), .ifS (.not (.call 10 [.var 9, .call 14 [.var 10, .var 11, .var 12, .var 13, .var 8]])) [.ret (.bl false)] [], .ifS (.eq true (.bi .sum [.comp (.name 14) [14] (.var 9) [] (.bi .sum [.var 14])]) (.bin .mul (.bin .mul (.bi .len [.var 8]) (.call 9 [.var 12])) (.call 9 [.var 13]))) [.ret (.bl false)] []], .ret (.bl true)]
def n_law : List Str := ["script", "pool", "turn", "n", "m", "r", "rows", "place", "places", "told", "a", "b", "i", "j", "row"]
def Fs : List Fn := [⟨1, 1, b_power⟩, ⟨3, 4, b_folded_at⟩, ⟨5, 13, b_unfolded⟩, ⟨2, 5, b__law_mixed⟩, ⟨3, 4, b__law_rest⟩, ⟨1, 1, b__law_pool⟩, ⟨1, 1, b__law_next⟩, ⟨2, 3, b__law_draw⟩, ⟨1, 3, b__law_sheet⟩, ⟨1, 3, b__law_half_power⟩, ⟨2, 4, b__law_same⟩, ⟨3, 4, b__law_at_row⟩, ⟨3, 6, b__law_snips⟩, ⟨2, 5, b__law_mixed_up⟩, ⟨5, 9, b__law_picture⟩, ⟨1, 15, b_law⟩]
def tfns : List (Str × Nat) := [("power", 1), ("folded_at", 3), ("unfolded", 5), ("_law_mixed", 2), ("_law_rest", 3), ("_law_pool", 1), ("_law_next", 1), ("_law_draw", 2), ("_law_sheet", 1), ("_law_half_power", 1), ("_law_same", 2), ("_law_at_row", 3), ("_law_snips", 3), ("_law_mixed_up", 2), ("_law_picture", 5), ("law", 1)]
def tfree : List Str := ["range", "isinstance", "int", "str", "dict", "list", "min", "len", "tuple", "sum", "bool"]
def tcons : List Str := []
end Lk41
/-! k41: what its program computes, and that the law holds. -/
namespace Lk41
open PySem Pd
section
variable {n : Nat} {m m0 : Mu} {Q : QX} {p : Addr} {ns : List Int}
theorem div2 : divOk 2 := .inl ⟨by decide, pow_big (k := 3) (by decide) (by decide)⟩
def stepF (x : Int × Int) : Int × Int := (x.1.fdiv 2, if x.1 - 1 - x.2 < x.2 then x.1 - 1 - x.2 else x.2)
def foldF : Nat → Int × Int → Int × Int
  | 0, x => x
  | k + 1, x => stepF (foldF k x)
def stepA (x : Int × Int) : Int × Int := (x.1.fdiv 2, if x.1.fdiv 2 ≤ x.2 then x.1 - 1 - x.2 else x.2)
def foldA : Nat → Int × Int → Int × Int
  | 0, x => x
  | k + 1, x => stepA (foldA k x)
theorem power_ok {k : Nat} (hk : k < 100) (h : Q (.d (.int (2 ^ k))) m) : callN Fs [] (n + 1) 0 [.int k] m Q := by
  refine callN_succ rfl rfl ?_
  refine And.intro ⟨by omega, by omega, by decide⟩ ?_
  show Q (.d (.int (1 * 2 ^ (k : Int).toNat))) m
  rw [Int.one_mul, Int.toNat_natCast]
  exact h
theorem folded_ok {a r : Int} {k : Nat} (hk : k < 100) (h : Q (.d (.int (foldF k (a, r)).2)) m) : callN Fs [] (n + 1) 1 [.int a, .int k, .int r] m Q := by
  refine callN_succ rfl rfl ?_
  refine And.intro ⟨by omega, by omega⟩ ?_
  refine forL_rng0 (fun j ro m' => m' = m ∧ ∃ y, ro = [.fz (.int (foldF j (a, r)).1), .fz (.int k), .fz (.int (foldF j (a, r)).2), y]) ⟨rfl, _, rfl⟩ (fun j ro m1 K hj hP q => ?_) fun ro m1 hP => ?_
  · obtain ⟨rfl, y, rfl⟩ := hP
    refine And.intro div2 ?_
    exact q _ _ ⟨rfl, _, rfl⟩
  · obtain ⟨rfl, y, rfl⟩ := hP
    rw [Int.toNat_natCast]
    exact h
theorem half_ok {k : Nat} (hk : k < 100) (h : Q (.d (.int (2 ^ k))) m) : callN Fs [] (n + 1) 9 [.int k] m Q := by
  refine callN_succ rfl rfl ?_
  refine And.intro ⟨by omega, by omega⟩ ?_
  refine forL_rng0 (fun j ro m' => m' = m ∧ ∃ y, ro = [.fz (.int k), .fz (.int (2 ^ j)), y]) ⟨rfl, _, rfl⟩ (fun j ro m1 K hj hP q => ?_) fun ro m1 hP => ?_
  · obtain ⟨rfl, y, rfl⟩ := hP
    refine And.intro (mul_l (by decide)) ?_
    refine q _ _ ⟨rfl, .fz (.int (j : Int)), ?_⟩
    rw [Int.pow_succ, Int.mul_comm]
    rfl
  · obtain ⟨rfl, y, rfl⟩ := hP
    rw [Int.toNat_natCast]
    exact h
theorem at_row_ok {a r : Int} {k : Nat} (hk : k < 100) (h : Q (.d (.int (foldA k (a, r)).2)) m) : callN Fs [] (n + 1) 11 [.int a, .int k, .int r] m Q := by
  refine callN_succ rfl rfl ?_
  refine And.intro ⟨by omega, by omega⟩ ?_
  refine forL_rng0 (fun j ro m' => m' = m ∧ ∃ y, ro = [.fz (.int (foldA j (a, r)).1), .fz (.int k), .fz (.int (foldA j (a, r)).2), y]) ⟨rfl, _, rfl⟩ (fun j ro m1 K hj hP q => ?_) fun ro m1 hP => ?_
  · obtain ⟨rfl, y, rfl⟩ := hP
    refine And.intro div2 (ifP (fun h1 => ?_) fun h1 => ?_)
    · refine And.intro div2 (q _ _ ⟨rfl, .fz (.int (j : Int)), ?_⟩)
      have h2 : (foldA j (a, r)).1.fdiv 2 ≤ (foldA j (a, r)).2 := of_decide_eq_true h1
      show _ = [SV.fz (.int (stepA (foldA j (a, r))).1), .fz (.int k), .fz (.int (stepA (foldA j (a, r))).2), _]
      unfold stepA
      rw [if_pos h2]
      rfl
    · refine And.intro div2 (q _ _ ⟨rfl, .fz (.int (j : Int)), ?_⟩)
      have h2 : ¬ (foldA j (a, r)).1.fdiv 2 ≤ (foldA j (a, r)).2 := of_decide_eq_false h1
      show _ = [SV.fz (.int (stepA (foldA j (a, r))).1), .fz (.int k), .fz (.int (stepA (foldA j (a, r))).2), _]
      unfold stepA
      rw [if_neg h2]
      rfl
  · obtain ⟨rfl, y, rfl⟩ := hP
    rw [Int.toNat_natCast]
    exact h
theorem sheet_ok (hm : PI m0 p ns m) (h : ∀ (a b i j : Nat) m', a < 4 → b < 4 → i ≤ a → j ≤ b → PI m0 p ns m' → Q (.d (.tup false [.int a, .int b, .int i, .int j])) m') : callN Fs [] (n + 4) 8 [.cell p] m Q := by
  refine callN_succ rfl rfl ?_
  refine (show callN Fs [] (n + 3) 7 [.cell p, .int 4] m _ from draw_pi (iM := 3) rfl rfl rfl hm (by decide) fun a m1 a0 a1 h1 => ?_)
  refine (show callN Fs [] (n + 3) 7 [.cell p, .int 4] m1 _ from draw_pi (iM := 3) rfl rfl rfl h1 (by decide) fun b m2 b0 b1 h2 => ?_)
  refine (show callN Fs [] (n + 3) 7 [.cell p, .int (a + 1)] m2 _ from draw_pi (iM := 3) rfl rfl rfl h2 (by omega) fun i m3 i0 i1 h3 => ?_)
  refine (show callN Fs [] (n + 3) 7 [.cell p, .int (b + 1)] m3 _ from draw_pi (iM := 3) rfl rfl rfl h3 (by omega) fun j m4 j0 j1 h4 => ?_)
  refine And.intro (by show 4 ≤ sizeLine; decide) ?_
  have z := h a.toNat b.toNat i.toNat j.toNat m4 (by omega) (by omega) (by omega) (by omega) h4
  rw [Int.toNat_of_nonneg a0, Int.toNat_of_nonneg b0, Int.toNat_of_nonneg i0, Int.toNat_of_nonneg j0] at z
  exact z
/-! ### cells -/
abbrev Ce := Nat × Nat
def ceD (q : Ce) : D := .tup false [.int q.1, .int q.2]
theorem snips_ok {rows cols : Nat} (hr : rows ≤ 8) (hc : cols ≤ 8) (hm : PI m0 p ns m) (h : ∀ (L : List Ce) m', L.Nodup → (∀ q ∈ L, q.1 < rows ∧ q.2 < cols) → L.length ≤ 64 → PI m0 p ns m' → Q (.d (.lst (L.map ceD))) m') : callN Fs [] (n + 4) 12 [.cell p, .int rows, .int cols] m Q := by
  refine callN_succ rfl rfl ?_
  refine And.intro (by show 0 ≤ sizeLine; decide) (And.intro ⟨by omega, by omega⟩ ?_)
  refine forL_rng0 (fun j ro m' => PI m0 p ns m' ∧ ∃ (L : List Ce) (y1 y2 : SV), ro = [.fz (.cell p), .fz (.int rows), .fz (.int cols), .fz (.lst (L.map ceD)), y1, y2] ∧ L.Nodup ∧ (∀ q ∈ L, q.1 < j ∧ q.2 < cols) ∧ L.length ≤ j * cols)
    ⟨hm, [], _, _, rfl, List.nodup_nil, by simp, by simp⟩ (fun j ro m1 K hj hP q => ?_) fun ro m1 hP => ?_
  · obtain ⟨h1, L, y1, y2, rfl, nd, mem, len⟩ := hP
    rw [Int.toNat_natCast] at hj
    have go : ∀ m1, PI m0 p ns m1 → exs (callN Fs [] (n + 3)) [] [.set (.name 3) (.bin .add (.var 3) (.comp (.name 5) [5] (.rng [.var 2]) [.eq false (.call 7 [.var 0, .int 3]) (.int 0)] (.tup [.var 4, .var 5])))] { m0 := m, nx := K, rt := Q, ct := K, bk := exs (callN Fs [] (n + 3)) [] [.ret (.var 3)] { m0 := m, nx := fun _ m' => Q (.d .non) m', rt := Q } } [.fz (.cell p), .fz (.int rows), .fz (.int cols), .fz (.lst (L.map ceD)), .fz (.int (j : Int)), y2] m1 := by
      intro m1 h1
      refine And.intro ⟨by omega, by omega⟩ ?_
      refine compL_inv (fun i acc m' => PI m0 p ns m' ∧ ∃ L2 : List Ce, acc = L2.map ceD ∧ L2.Nodup ∧ (∀ q ∈ L2, q.1 = j ∧ q.2 < i) ∧ L2.length ≤ i ∧ i ≤ cols) _ 0 [] m1 _ ⟨h1, [], rfl, List.nodup_nil, by simp, by simp, by omega⟩ (fun i d acc m2 K2 ed hP q2 => ?_) fun acc m2 hP => ?_
      · obtain ⟨h2, L2, rfl, nd2, mem2, len2, hi⟩ := hP
        obtain ⟨rfl, hi2⟩ := rng0_get ed
        rw [Int.toNat_natCast] at hi2
        rw [Nat.zero_add] at mem2 len2 hi q2
        refine (show callN Fs [] (n + 3) 7 [.cell p, .int 3] m2 _ from draw_pi (iM := 3) rfl rfl rfl h2 (by decide) fun v m3 v0 v1 h3 => ?_)
        refine And.intro rfl (And.intro rfl (ifP (fun _ => ?_) fun _ => ?_))
        · refine And.intro (by show 2 ≤ sizeLine; decide) (And.intro ?_ (q2 _ _ ⟨h3, L2 ++ [(j, i)], ?_, ?_, ?_, ?_, ?_⟩))
          · rw [List.length_map]
            exact Nat.lt_of_le_of_lt len2 (Nat.lt_of_lt_of_le hi2 (Nat.le_trans hc (by decide)))
          · rw [List.map_append]; rfl
          · rw [List.nodup_append]
            refine ⟨nd2, by simp, fun a ha b hb => ?_⟩
            rw [List.mem_singleton] at hb
            subst hb
            intro z
            have := (mem2 a ha).2
            rw [z] at this
            exact absurd this (Nat.lt_irrefl _)
          · intro q hq
            rcases List.mem_append.mp hq with hq | hq
            · exact ⟨(mem2 q hq).1, Nat.lt_succ_of_lt (mem2 q hq).2⟩
            · rw [List.mem_singleton] at hq
              subst hq
              exact ⟨rfl, Nat.lt_succ_self _⟩
          · simp; omega
          · omega
        · exact q2 _ _ ⟨h3, L2, rfl, nd2, fun q hq => ⟨(mem2 q hq).1, Nat.lt_succ_of_lt (mem2 q hq).2⟩, by omega, by omega⟩
      · obtain ⟨h2, L2, rfl, nd2, mem2, len2, hi⟩ := hP
        rw [rng0_len, Int.toNat_natCast, Nat.zero_add] at mem2 len2
        have hle : j * cols + cols ≤ 64 := by
          have : (j + 1) * cols ≤ 8 * 8 := Nat.mul_le_mul (by omega) hc
          rw [Nat.add_mul] at this
          omega
        refine And.intro ?_ (q _ _ ⟨h2, L ++ L2, .fz (.int (j : Int)), y2, ?_, ?_, ?_, ?_⟩)
        · rw [List.length_map, List.length_map]
          exact Nat.le_trans (by omega) (show 64 ≤ sizeLine by decide)
        · rw [List.map_append]; rfl
        · rw [List.nodup_append]
          refine ⟨nd, nd2, fun a ha b hb z => ?_⟩
          have h4 := (mem a ha).1
          rw [z, (mem2 b hb).1] at h4
          exact absurd h4 (Nat.lt_irrefl _)
        · intro q hq
          rcases List.mem_append.mp hq with hq | hq
          · exact ⟨Nat.lt_succ_of_lt (mem q hq).1, (mem q hq).2⟩
          · exact ⟨by rw [(mem2 q hq).1]; exact Nat.lt_succ_self _, (mem2 q hq).2⟩
        · rw [List.length_append, Nat.add_mul]; omega
    refine And.intro (by decide) (And.intro rfl (And.intro rfl (ifP (fun _ => ?_) fun _ => ?_)))
    · exact (show callN Fs [] (n + 3) 6 [.cell p] m1 _ from next_pi (iM := 3) rfl rfl rfl h1 fun m2 h2 => go m2 h2)
    · exact go m1 h1
  · obtain ⟨h1, L, y1, y2, rfl, nd, mem, len⟩ := hP
    rw [Int.toNat_natCast] at mem len
    exact h L m1 nd mem (Nat.le_trans len (Nat.le_trans (Nat.mul_le_mul hr hc) (by decide))) h1
theorem map_erase {α β : Type} (f : α → β) : ∀ (L : List α) (i : Nat), (L.map f).eraseIdx i = (L.eraseIdx i).map f
  | [], _ => by simp
  | a :: L, 0 => rfl
  | a :: L, i + 1 => by simp [map_erase f L i]
theorem perm_erase {α : Type} : ∀ (L : List α) (i : Nat) (h : i < L.length), (L[i] :: L.eraseIdx i).Perm L
  | [], _, h => by simp at h
  | a :: L, 0, _ => .refl _
  | a :: L, i + 1, h => by
    have hi : i < L.length := by simpa using h
    have z := perm_erase L i hi
    exact (List.Perm.swap a L[i] (L.eraseIdx i)).trans (z.cons a)
theorem mixed_up_ok {L : List Ce} (hL : L.length ≤ 64) (hm : PI m0 p ns m) (h : ∀ (L2 : List Ce) m', L2.Perm L → PI m0 p ns m' → Q (.o (.lst (L2.map ceD))) m') : callN Fs [] (n + 4) 13 [.cell p, .lst (L.map ceD)] m Q := by
  refine callN_succ rfl rfl ?_
  refine And.intro (by show 0 ≤ sizeLine; decide) (And.intro ⟨by rw [List.length_map]; omega, by rw [List.length_map]; omega⟩ ?_)
  refine forL_rng0 (fun j ro m' => PI m0 p ns m' ∧ ∃ (A B : List Ce) (y : SV), ro = [.fz (.cell p), .fz (.lst (L.map ceD)), .ow (.lst (A.map ceD)), .ow (.lst (B.map ceD)), y] ∧ (B ++ A).Perm L ∧ A.length + j = L.length)
    ⟨hm, L, [], _, rfl, .refl _, rfl⟩ (fun j ro m1 K hj hP q => ?_) fun ro m1 hP => ?_
  · obtain ⟨h1, A, B, y, rfl, pe, len⟩ := hP
    rw [Int.toNat_natCast, List.length_map] at hj
    refine And.intro rfl (And.intro rfl (And.intro (by decide) ?_))
    refine (show callN Fs [] (n + 3) 7 [.cell p, .int ((A.map ceD).length : Int)] m1 _ from draw_pi (iM := 3) rfl rfl rfl h1 (by rw [List.length_map]; omega) fun v m2 v0 v1 h2 => ?_)
    rw [List.length_map] at v1
    have hv : v.toNat < A.length := by omega
    refine Exists.intro _ (And.intro rfl (Exists.intro (ceD A[v.toNat]) (And.intro v0 (And.intro (by omega) (And.intro ?_ ?_)))))
    · rw [List.getElem?_map, List.getElem?_eq_getElem hv]; rfl
    · have pl : B.length + A.length = L.length := by rw [← List.length_append]; exact pe.length_eq
      refine And.intro ?_ (q _ _ ⟨h2, A.eraseIdx v.toNat, B ++ [A[v.toNat]], .fz (.int (j : Int)), ?_, ?_, ?_⟩)
      · rw [List.length_map]
        exact Nat.lt_of_lt_of_le (show B.length < 64 by omega) (show 64 ≤ sizeLine by decide)
      · rw [List.map_append]
        show [_, _, SV.ow (.lst ((A.map ceD).eraseIdx v.toNat)), _, _] = _
        rw [map_erase]
        rfl
      · refine List.Perm.trans ?_ pe
        rw [List.append_assoc]
        exact List.Perm.append_left B (perm_erase A _ hv)
      · rw [List.length_eraseIdx_of_lt hv]; omega
  · obtain ⟨h1, A, B, y, rfl, pe, len⟩ := hP
    rw [Int.toNat_natCast, List.length_map] at len
    have e : A = [] := List.eq_nil_of_length_eq_zero (by omega)
    subst e
    rw [List.append_nil] at pe
    exact h B m1 pe h1
/-- is the cell told? -/
def inL (L : List Ce) (x y : Int) : Bool := L.any fun q => ((q.1 : Int) == x) && ((q.2 : Int) == y)
theorem inL_perm {L L2 : List Ce} (h : L2.Perm L) (x y : Int) : inL L2 x y = inL L x y := by
  unfold inL
  rw [Bool.eq_iff_iff, List.any_eq_true, List.any_eq_true]
  exact ⟨fun ⟨q, hq, e⟩ => ⟨q, h.mem_iff.mp hq, e⟩, fun ⟨q, hq, e⟩ => ⟨q, h.mem_iff.mpr hq, e⟩⟩
def b2 (b : Bool) : Int := if b then 1 else 0
def picD (L : List Ce) (a b : Nat) (f g : Nat → Int) : D := .lst ((List.range (2 ^ a)).map fun r => .lst ((List.range (2 ^ b)).map fun c => .int (b2 (inL L (f r) (g c)))))
def fF (a i : Nat) (r : Nat) : Int := (foldF i ((2 : Int) ^ a, (r : Int))).2
def fA (a i : Nat) (r : Nat) : Int := (foldA i ((2 : Int) ^ a, (r : Int))).2
theorem toNat_pow (a : Nat) : ((2 : Int) ^ a).toNat = 2 ^ a := by
  have e : ((2 : Int) ^ a) = ((2 ^ a : Nat) : Int) := by simp
  rw [e, Int.toNat_natCast]
theorem pow_le {a : Nat} (h : a < 4) : 2 ^ a ≤ 8 := by
  have : 2 ^ a ≤ 2 ^ 3 := Nat.pow_le_pow_right (by decide) (by omega)
  exact this
theorem small_nat {x : Nat} (h : x ≤ 8) : smallI (x : Int) := ⟨by omega, by omega⟩
theorem pow_in {i : Nat} (h : i < 4) : -(2 ^ 64) < ((2 : Int) ^ i) ∧ ((2 : Int) ^ i) < 2 ^ 64 := by
  have h1 : 2 ^ i ≤ 8 := Nat.le_trans (Nat.pow_le_pow_right (by decide) (show i ≤ 3 by omega)) (by decide)
  have e : ((2 : Int) ^ i) = ((2 ^ i : Nat) : Int) := by simp
  rw [e]
  generalize 2 ^ i = x at h1
  omega
theorem pow_small {a : Nat} (h : a < 4) : smallI ((2 : Int) ^ a) := by
  have e : ((2 : Int) ^ a) = ((2 ^ a : Nat) : Int) := by simp
  have := pow_le h
  rw [e]
  generalize 2 ^ a = x at this
  exact ⟨by omega, by omega⟩
theorem picture_ok {L : List Ce} {a b i j : Nat} (ha : a < 4) (hb : b < 4) (hi : i < 4) (hj : j < 4) (h : Q (.o (picD L a b (fA a i) (fA b j))) m) : callN Fs [] (n + 4) 14 [.int a, .int b, .int i, .int j, .lst (L.map ceD)] m Q := by
  refine callN_succ rfl rfl ?_
  refine (show callN Fs [] (n + 3) 9 [.int a] m _ from half_ok (by omega) ?_)
  refine (show callN Fs [] (n + 3) 9 [.int b] m _ from half_ok (by omega) ?_)
  have h8 : 8 ≤ sizeLine := by decide
  refine And.intro (pow_small ha) ?_
  refine compL_rng0 (F := fun r => .lst ((List.range (2 ^ b)).map fun c => .int (b2 (inL L (fA a i r) (fA b j c))))) (by rw [toNat_pow]; exact Nat.le_trans (pow_le ha) h8) (fun r hr K q => ?_) (by rw [toNat_pow]; exact h)
  refine And.intro (pow_small hb) ?_
  refine compL_rng0 (F := fun c => .int (b2 (inL L (fA a i r) (fA b j c)))) (by rw [toNat_pow]; exact Nat.le_trans (pow_le hb) h8) (fun c hc K q => ?_) (by rw [toNat_pow]; exact q)
  refine (show callN Fs [] (n + 3) 11 [.int (2 ^ a), .int i, .int r] m _ from at_row_ok (by omega) ?_)
  refine (show callN Fs [] (n + 3) 11 [.int (2 ^ b), .int j, .int c] m _ from at_row_ok (by omega) ?_)
  refine And.intro (by show 2 ≤ sizeLine; decide) (And.intro rfl (And.intro ?_ ?_))
  · unfold plainDs
    rw [List.all_map, List.all_eq_true]
    intro x _
    rfl
  · have e : ((L.map ceD).any fun z => eqD z (.tup false [.int (fA a i r), .int (fA b j c)])) = inL L (fA a i r) (fA b j c) := by
      unfold inL
      rw [List.any_map]
      congr 1
      funext x
      simp [ceD, eqD, eqDs]
    show K (.int (if ((L.map ceD).any fun z => eqD z (.tup false [.int (fA a i r), .int (fA b j c)])) = true then 1 else 0)) m
    rw [e]
    exact q
abbrev keyC (q : Ce)   : List L2.Key := [Sum.inl (q.1 : Int), Sum.inl (q.2 : Int)]
theorem unfolded_ok {L : List Ce} {a b i j : Nat} (hL : L.length ≤ 64) (ha : a < 4) (hb : b < 4) (hi : i < 4) (hj : j < 4) (h : Q (.o (picD L a b (fF a i) (fF b j))) m) : callN Fs [] (n + 4) 2 [.int a, .int b, .int i, .int j, .lst (L.map ceD)] m Q := by
  refine callN_succ rfl rfl ?_
  have h8 : 8 ≤ sizeLine := by decide
  refine Exists.intro _ (And.intro rfl ?_)
  refine dcompL_inv (fun k acc m' => m' = m ∧ k ≤ L.length ∧ ∃ ks vs, acc = .dT ks vs ∧ ks.length = vs.length ∧ ks.length ≤ k ∧ ∀ x, x ∈ ks ↔ ∃ q ∈ L.take k, x = keyC q) _ 0 _ m _ ⟨rfl, Nat.zero_le _, [], [], rfl, rfl, Nat.le_refl _, by simp⟩ (fun k d acc m1 K ed hP q => ?_) fun acc m1 hP => ?_
  · obtain ⟨rfl, hk, ks, vs, rfl, h1, h2, h3⟩ := hP
    rw [Nat.zero_add] at hk h2 h3 q
    rw [List.getElem?_map, Option.map_eq_some_iff] at ed
    obtain ⟨x, ex, rfl⟩ := ed
    have hl := (List.getElem?_eq_some_iff.mp ex).1
    obtain ⟨p1, p2⟩ := put_len (keyC x) (.bl true) h1
    refine Exists.intro _ (And.intro (Nat.lt_of_le_of_lt h2 (Nat.lt_of_lt_of_le hl (Nat.le_trans hL (by decide)))) (And.intro rfl (q _ _ ⟨rfl, by omega, _, _, rfl, p1, Nat.le_trans p2 (by omega), fun y => ?_⟩)))
    rw [mem_putKs, h3, List.take_succ, ex]
    constructor
    · rintro (⟨q, hq, e⟩ | e)
      · exact ⟨q, List.mem_append_left _ hq, e⟩
      · exact ⟨x, by simp, e⟩
    · rintro ⟨q, hq, e⟩
      rcases List.mem_append.mp hq with hq | hq
      · exact .inl ⟨q, hq, e⟩
      · have : q = x := by simpa using hq
        subst this
        exact .inr e
  · obtain ⟨rfl, hk, ks, vs, rfl, h1, h2, h3⟩ := hP
    rw [Nat.zero_add, List.length_map] at h3
    rw [List.take_length] at h3
    have key : ∀ x y : Int, (valD ks vs ([Sum.inl x, Sum.inl y]   : List L2.Key)).isSome = inL L x y := fun x y => by
      rw [Bool.eq_iff_iff, valD_some h1, h3]
      unfold inL
      rw [List.any_eq_true]
      constructor
      · rintro ⟨q, hq, e⟩
        refine ⟨q, hq, ?_⟩
        simp only [keyC, List.cons.injEq, Sum.inl.injEq, and_true] at e
        simp [e.1, e.2]
      · rintro ⟨q, hq, e⟩
        refine ⟨q, hq, ?_⟩
        simp only [Bool.and_eq_true, beq_iff_eq] at e
        simp [keyC, e.1, e.2]
    refine (show callN Fs [] (n + 3) 0 [.int a] m1 _ from power_ok (by omega) ?_)
    refine And.intro (pow_small ha) ?_
    refine compL_rng0 (F := fun r => .int (fF a i r)) (by rw [toNat_pow]; exact Nat.le_trans (pow_le ha) h8) (fun r hr K q => ?_) ?_
    · refine (show callN Fs [] (n + 3) 0 [.int a] m1 _ from power_ok (by omega) ?_)
      exact (show callN Fs [] (n + 3) 1 [.int (2 ^ a), .int i, .int r] m1 _ from folded_ok (by omega) q)
    rw [toNat_pow]
    refine (show callN Fs [] (n + 3) 0 [.int b] m1 _ from power_ok (by omega) ?_)
    refine And.intro (pow_small hb) ?_
    refine compL_rng0 (F := fun r => .int (fF b j r)) (by rw [toNat_pow]; exact Nat.le_trans (pow_le hb) h8) (fun r hr K q => ?_) ?_
    · refine (show callN Fs [] (n + 3) 0 [.int b] m1 _ from power_ok (by omega) ?_)
      exact (show callN Fs [] (n + 3) 1 [.int (2 ^ b), .int j, .int r] m1 _ from folded_ok (by omega) q)
    rw [toNat_pow]
    refine Exists.intro _ (And.intro rfl ?_)
    have hF : ∀ f : D, f ∈ (List.range (2 ^ a)).map (fun r => D.int (fF a i r)) → ∃ x, f = .int x := fun f hf => by
      obtain ⟨r, _, e⟩ := List.mem_map.mp hf
      exact ⟨_, e.symm⟩
    let G : D → D := fun d => match d with
      | .int x => .lst ((List.range (2 ^ b)).map fun c => .int (b2 (inL L x (fF b j c))))
      | _ => .non
    refine compL_map (F := G) (by rw [List.length_map, List.length_range]; exact Nat.le_trans (pow_le ha) h8) (fun d hd K q => ?_) ?_
    · obtain ⟨x, rfl⟩ := hF d hd
      refine Exists.intro _ (And.intro rfl ?_)
      let G2 : D → D := fun d => match d with
        | .int y => .int (b2 (inL L x y))
        | _ => .non
      refine compL_map (F := G2) (by rw [List.length_map, List.length_range]; exact Nat.le_trans (pow_le hb) h8) (fun d hd K q => ?_) ?_
      · obtain ⟨c, _, rfl⟩ := List.mem_map.mp hd
        refine And.intro (by show 2 ≤ sizeLine; decide) (Exists.intro _ (And.intro rfl ?_))
        show K (.int (if (valD ks vs ([Sum.inl x, Sum.inl (fF b j c)]   : List L2.Key)).isSome = true then 1 else 0)) m1
        rw [key]
        exact q
      · rw [List.map_map]
        exact q
    · rw [List.map_map]
      exact h
/-! ### plain: counting -/
theorem sum_add {α : Type} (u v : α → Int) : ∀ l : List α, (l.map fun x => u x + v x).sum = (l.map u).sum + (l.map v).sum
  | [] => rfl
  | x :: l => by
    have ih := sum_add u v l
    simp only [List.map_cons, List.sum_cons, ih]
    omega
theorem sum_mul {α : Type} (u : α → Int) (k : Int) : ∀ l : List α, (l.map fun x => u x * k).sum = (l.map u).sum * k
  | [] => by simp
  | x :: l => by
    have ih := sum_mul u k l
    simp only [List.map_cons, List.sum_cons, ih, Int.add_mul]
theorem sum_zero {α : Type} : ∀ l : List α, (l.map fun _ => (0 : Int)).sum = 0
  | [] => rfl
  | x :: l => by simp [sum_zero l]
theorem sum_b2 {α : Type} (q : α → Bool) : ∀ l : List α, (l.map fun x => b2 (q x)).sum = ((l.filter q).length : Int)
  | [] => rfl
  | x :: l => by
    have ih := sum_b2 q l
    simp only [List.map_cons, List.sum_cons, ih]
    cases h : q x with
    | true => rw [List.filter_cons_of_pos h]; simp [b2]; omega
    | false => rw [List.filter_cons_of_neg (by simp [h])]; simp [b2]
theorem count_ok {f g : Nat → Int} {R C : List Nat} {u v : Int} : ∀ {L : List Ce}, L.Nodup → (∀ q ∈ L, ((R.filter fun r => (q.1 : Int) == f r).length : Int) = u ∧ ((C.filter fun c => (q.2 : Int) == g c).length : Int) = v) →
    (R.map fun r => (C.map fun c => b2 (inL L (f r) (g c))).sum).sum = L.length * u * v
  | [], _, _ => by
    have e : (R.map fun r => (C.map fun c => b2 (inL [] (f r) (g c))).sum) = R.map fun _ => (0 : Int) := by
      apply List.map_congr_left
      intro r _
      exact sum_zero C
    rw [e, sum_zero]
    simp
  | q :: L, nd, h => by
    have nd2 := List.nodup_cons.mp nd
    have ih := count_ok (f := f) (g := g) (R := R) (C := C) (u := u) (v := v) nd2.2 fun q hq => h q (List.mem_cons_of_mem _ hq)
    obtain ⟨h1, h2⟩ := h q List.mem_cons_self
    have e1 : ∀ x y : Int, b2 (inL (q :: L) x y) = b2 ((q.2 : Int) == y) * b2 ((q.1 : Int) == x) + b2 (inL L x y) := by
      intro x y
      have e0 : inL (q :: L) x y = ((((q.1 : Int) == x) && ((q.2 : Int) == y)) || inL L x y) := rfl
      rw [e0]
      cases hx : (q.1 : Int) == x with
      | false => simp [b2]
      | true =>
        cases hy : (q.2 : Int) == y with
        | false => simp [b2]
        | true =>
          have no : inL L x y = false := by
            cases hl : inL L x y with
            | false => rfl
            | true =>
              unfold inL at hl
              rw [List.any_eq_true] at hl
              obtain ⟨q', hq', e⟩ := hl
              simp only [Bool.and_eq_true, beq_iff_eq] at e hx hy
              have : q' = q := Prod.ext (by omega) (by omega)
              subst this
              exact absurd hq' nd2.1
          simp [no, b2]
    have e2 : (R.map fun r => (C.map fun c => b2 (inL (q :: L) (f r) (g c))).sum) = R.map fun r => b2 ((q.1 : Int) == f r) * v + (C.map fun c => b2 (inL L (f r) (g c))).sum := by
      apply List.map_congr_left
      intro r _
      have e3 : (C.map fun c => b2 (inL (q :: L) (f r) (g c))) = C.map fun c => b2 ((q.2 : Int) == g c) * b2 ((q.1 : Int) == f r) + b2 (inL L (f r) (g c)) := by
        apply List.map_congr_left
        intro c _
        exact e1 _ _
      rw [e3, sum_add (fun c => b2 ((q.2 : Int) == g c) * b2 ((q.1 : Int) == f r)), sum_mul (fun c => b2 ((q.2 : Int) == g c)), sum_b2 (fun c => (q.2 : Int) == g c), h2, Int.mul_comm]
    rw [e2, sum_add (fun r => b2 ((q.1 : Int) == f r) * v), sum_mul (fun r => b2 ((q.1 : Int) == f r)), sum_b2 (fun r => (q.1 : Int) == f r), h1, ih]
    simp only [List.length_cons, Int.natCast_add, Int.add_mul]
    simp
    omega
/-! ### plain: the finite facts -/
def facts1 : Bool := (List.range 4).all fun a => (List.range (a + 1)).all fun i => ((2 : Int) ^ a).fdiv (2 ^ i) == ((2 ^ (a - i) : Nat) : Int) && ((List.range (2 ^ a)).all fun r => fF a i r == fA a i r && (!(decide (i < a)) || (foldF 1 (((2 : Int) ^ a).fdiv (2 ^ i), fF a i r)).2 == fF a (i + 1) r)) &&
  (List.range (2 ^ (a - i))).all fun q => ((List.range (2 ^ a)).filter fun r => (q : Int) == fF a i r).length == 2 ^ i
theorem facts1_ok : facts1 = true := by decide +kernel
theorem facts {a i : Nat} (ha : a < 4) (hi : i ≤ a) : ((2 : Int) ^ a).fdiv (2 ^ i) = ((2 ^ (a - i) : Nat) : Int) ∧ (∀ r, r < 2 ^ a → fF a i r = fA a i r ∧ (i < a → (foldF 1 (((2 : Int) ^ a).fdiv (2 ^ i), fF a i r)).2 = fF a (i + 1) r)) ∧
    ∀ q : Nat, q < 2 ^ (a - i) → ((List.range (2 ^ a)).filter fun r => (q : Int) == fF a i r).length = 2 ^ i := by
  have h := facts1_ok
  unfold facts1 at h
  simp only [List.all_eq_true, List.mem_range, Bool.and_eq_true, beq_iff_eq, Bool.or_eq_true, Bool.not_eq_true', decide_eq_false_iff_not] at h
  obtain ⟨⟨h1, h2⟩, h3⟩ := h a ha i (by omega)
  exact ⟨h1, fun r hr => ⟨(h2 r hr).1, fun hia => (h2 r hr).2.resolve_left fun z => z hia⟩, h3⟩
/-! ### the law -/
theorem eqD_ii (x y : Int) : eqD (.int x) (.int y) = (x == y) := by simp [eqD]
theorem pic_eq {L : List Ce} {a b : Nat} {f g f2 g2 : Nat → Int} (hf : ∀ r, r < 2 ^ a → f r = f2 r) (hg : ∀ r, r < 2 ^ b → g r = g2 r) : picD L a b f g = picD L a b f2 g2 := by
  unfold picD
  congr 1
  apply List.map_congr_left
  intro r hr
  congr 1
  apply List.map_congr_left
  intro c hc
  rw [hf r (by simpa using hr), hg c (by simpa using hc)]
theorem pic_perm {L L2 : List Ce} (h : L2.Perm L) {a b : Nat} {f g : Nat → Int} : picD L2 a b f g = picD L a b f g := by
  unfold picD
  congr 1
  apply List.map_congr_left
  intro r hr
  congr 1
  apply List.map_congr_left
  intro c hc
  rw [inL_perm h]
theorem pic_cmp {L : List Ce} {a b : Nat} (ha : a < 4) (hb : b < 4) {f g : Nat → Int} : cmpD 2 (picD L a b f g) = true := by
  have h1 := pow_le ha
  have h2 := pow_le hb
  have e : (decide (((List.range (2 ^ a)).map fun r => D.lst ((List.range (2 ^ b)).map fun c => .int (b2 (inL L (f r) (g c))))).length < 2 ^ 62) && ((List.range (2 ^ a)).map fun r => D.lst ((List.range (2 ^ b)).map fun c => .int (b2 (inL L (f r) (g c))))).all (cmpD 1)) = true := by
    rw [Bool.and_eq_true, decide_eq_true_eq, List.length_map, List.length_range, List.all_map, List.all_eq_true]
    refine ⟨Nat.lt_of_le_of_lt h1 (by decide), fun r _ => ?_⟩
    show (decide (((List.range (2 ^ b)).map fun c => D.int (b2 (inL L (f r) (g c)))).length < 2 ^ 62) && ((List.range (2 ^ b)).map fun c => D.int (b2 (inL L (f r) (g c)))).all (cmpD 0)) = true
    rw [Bool.and_eq_true, decide_eq_true_eq, List.length_map, List.length_range, List.all_map, List.all_eq_true]
    exact ⟨Nat.lt_of_le_of_lt h2 (by decide), fun c _ => rfl⟩
  exact e
theorem law_ok (ns : List Int) (hns : ns.length ≤ 63) : callN Fs [] 12 15 [.lst (ns.map .int)] (fun _ => none) (fun rv _ => rv = .d (.bl true)) := by
  refine callN_succ rfl rfl ?_
  refine (show callN Fs [] (8 + 3) 5 [.lst (ns.map .int)] (fun _ => none) _ from pool_ok (iM := 3) rfl rfl rfl fun v => ?_)
  intro p _
  refine And.intro ⟨by decide, by decide⟩ ?_
  refine forL_rng0 (fun _ ro m' => PI (fun _ => none) p ns m' ∧ ∃ y2 y3 y4 y5 y6 y7 y8 y9 ya yb yc yd ye, ro = [.fz (.lst (ns.map .int)), .fz (.cell p), y2, y3, y4, y5, y6, y7, y8, y9, ya, yb, yc, yd, ye])
    ⟨⟨0, v, 0, rfl⟩, _, _, _, _, _, _, _, _, _, _, _, _, _, rfl⟩ (fun t ro m1 K ht hP q => ?_) fun ro m1 hP => ?_
  · obtain ⟨h1, y2, y3, y4, y5, y6, y7, y8, y9, ya, yb, yc, yd, ye, rfl⟩ := hP
    refine (show callN Fs [] (8 + 3) 6 [.cell p] m1 _ from next_pi (iM := 3) rfl rfl rfl h1 fun m2 h2 => ?_)
    refine (show callN Fs [] (7 + 4) 8 [.cell p] m2 _ from sheet_ok h2 fun a b i j m3 ha hb hi hj h3 => ?_)
    refine And.intro rfl ?_
    refine (show callN Fs [] (10 + 1) 9 [.int a] m3 _ from half_ok (by omega) ?_)
    refine (show callN Fs [] (10 + 1) 9 [.int b] m3 _ from half_ok (by omega) ?_)
    obtain ⟨f1, f2, f3⟩ := facts ha hi
    obtain ⟨g1, g2, g3⟩ := facts hb hj
    have l1 := pow_le ha
    have l2 := pow_le hb
    refine And.intro (pow_small ha) ?_
    -- the rows, one by one
    refine forL_rng0 (fun _ ro m' => m' = m3 ∧ ∃ y5, ro = [.fz (.lst (ns.map .int)), .fz (.cell p), .fz (.int (t : Int)), .fz (.int (2 ^ a)), .fz (.int (2 ^ b)), y5, y6, y7, y8, y9, .fz (.int a), .fz (.int b), .fz (.int i), .fz (.int j), ye])
      ⟨rfl, _, rfl⟩ (fun r ro m4 K2 hr hP q2 => ?_) fun ro m4 hP => ?_
    · obtain ⟨rfl, y5, rfl⟩ := hP
      rw [toNat_pow] at hr
      obtain ⟨e1, e2⟩ := f2 r hr
      refine (show callN Fs [] (10 + 1) 1 [.int (2 ^ a), .int i, .int r] m4 _ from folded_ok (by omega) ?_)
      refine (show callN Fs [] (10 + 1) 11 [.int (2 ^ a), .int i, .int r] m4 _ from at_row_ok (by omega) ?_)
      refine (show callN Fs [] (10 + 0 + 1) 10 [.int (fF a i r), .int (fA a i r)] m4 _ from ?_)
      rw [← e1]
      refine same_ok rfl 0 _ 10 m4 _ rfl ?_
      refine ifP (fun hlt => ?_) fun _ => ?_
      · have hlt : i < a := by
          have := of_decide_eq_true hlt
          omega
        refine (show callN Fs [] (10 + 1) 9 [.int i] m4 _ from half_ok (by omega) ?_)
        refine And.intro (.inl ⟨Int.pow_pos (by decide), pow_big (k := 4) ?_ (by decide)⟩) ?_
        · have := pow_le (a := i) (by omega)
          rw [Int.natAbs_pow]
          exact Nat.lt_of_le_of_lt this (by decide)
        refine (show callN Fs [] (10 + 1) 1 [.int (2 ^ a), .int i, .int r] m4 _ from folded_ok (by omega) ?_)
        refine (show callN Fs [] (10 + 1) 1 [.int (((2 : Int) ^ a).fdiv (2 ^ i)), .int 1, .int (fF a i r)] m4 _ from folded_ok (k := 1) (by decide) ?_)
        refine (show callN Fs [] (10 + 1) 1 [.int (2 ^ a), .int ((i + 1 : Nat) : Int), .int r] m4 _ from folded_ok (by omega) ?_)
        refine And.intro rfl (And.intro rfl (ifP (fun h => ?_) fun _ => ?_))
        · have h : (!eqD (.int (foldF 1 (((2 : Int) ^ a).fdiv (2 ^ i), fF a i r)).2) (.int (fF a (i + 1) r))) = true := h
          rw [eqD_ii, e2 hlt] at h
          simp at h
        · exact q2 _ _ ⟨rfl, _, rfl⟩
      · exact q2 _ _ ⟨rfl, _, rfl⟩
    · obtain ⟨rfl, y5, rfl⟩ := hP
      have d1 : divOk ((2 : Int) ^ i) := by
        refine .inl ⟨Int.pow_pos (by decide), pow_big (k := 4) ?_ (by decide)⟩
        have := pow_le (a := i) (by omega)
        rw [Int.natAbs_pow]
        exact Nat.lt_of_le_of_lt this (by decide)
      have d2 : divOk ((2 : Int) ^ j) := by
        refine .inl ⟨Int.pow_pos (by decide), pow_big (k := 4) ?_ (by decide)⟩
        have := pow_le (a := j) (by omega)
        rw [Int.natAbs_pow]
        exact Nat.lt_of_le_of_lt this (by decide)
      have l3 := pow_le (a := a - i) (by omega)
      have l4 := pow_le (a := b - j) (by omega)
      refine (show callN Fs [] (10 + 1) 9 [.int i] m4 _ from half_ok (by omega) ?_)
      refine And.intro d1 ?_
      rw [f1]
      refine And.intro (small_nat l3) ?_
      -- each place of the folded sheet
      refine forL_rng0 (fun _ ro m' => m' = m4 ∧ ∃ y7, ro = [.fz (.lst (ns.map .int)), .fz (.cell p), .fz (.int (t : Int)), .fz (.int (2 ^ a)), .fz (.int (2 ^ b)), y5, .fz (.int ((2 ^ (a - i) : Nat) : Int)), y7, y8, y9, .fz (.int a), .fz (.int b), .fz (.int i), .fz (.int j), ye])
        ⟨rfl, _, rfl⟩ (fun r ro m5 K2 hr hP q2 => ?_) fun ro m5 hP => ?_
      · obtain ⟨rfl, y7, rfl⟩ := hP
        rw [Int.toNat_natCast] at hr
        refine And.intro (pow_small ha) ?_
        refine compL_inv (fun k acc m' => m' = m5 ∧ acc.length = ((List.range k).filter fun x => (r : Int) == fF a i x).length ∧ k ≤ 2 ^ a) _ 0 [] m5 _ ⟨rfl, rfl, Nat.zero_le _⟩ (fun k d acc m6 K3 ed hP q3 => ?_) fun acc m6 hP => ?_
        · obtain ⟨rfl, hl, hk⟩ := hP
          obtain ⟨rfl, hk2⟩ := rng0_get ed
          rw [toNat_pow] at hk2
          rw [Nat.zero_add] at hl hk q3
          refine (show callN Fs [] (10 + 1) 1 [.int (2 ^ a), .int i, .int k] m6 _ from folded_ok (by omega) ?_)
          have fl : ((List.range k).filter fun x => (r : Int) == fF a i x).length ≤ k := by
            have := List.length_filter_le (fun x => (r : Int) == fF a i x) (List.range k)
            rw [List.length_range] at this
            exact this
          refine And.intro rfl (And.intro rfl (ifP (fun h => ?_) fun h => ?_))
          · have h : eqD (.int (fF a i k)) (.int r) = true := h
            rw [eqD_ii, beq_iff_eq] at h
            refine And.intro (Nat.lt_of_le_of_lt (show acc.length ≤ 8 by omega) (by decide)) (q3 _ _ ⟨rfl, ?_, by omega⟩)
            rw [List.length_append, hl, List.range_succ, List.filter_append, List.length_append, List.filter_cons_of_pos (by simp [h])]
            rfl
          · have h : eqD (.int (fF a i k)) (.int r) = false := h
            rw [eqD_ii, beq_eq_false_iff_ne] at h
            refine q3 _ _ ⟨rfl, ?_, by omega⟩
            rw [hl, List.range_succ, List.filter_append, List.length_append, List.filter_cons_of_neg (by simpa using fun z => h z.symm)]
            rfl
        · obtain ⟨rfl, hl, hk⟩ := hP
          rw [rng0_len, toNat_pow, Nat.zero_add, f3 r hr] at hl
          refine (show callN Fs [] (10 + 1) 9 [.int i] m6 _ from half_ok (by omega) ?_)
          refine And.intro rfl (And.intro rfl (ifP (fun h => ?_) fun _ => ?_))
          · have h : (!eqD (.int (acc.length : Int)) (.int (2 ^ i))) = true := h
            rw [eqD_ii, hl] at h
            simp at h
          · exact q2 _ _ ⟨rfl, _, rfl⟩
      · obtain ⟨rfl, y7, rfl⟩ := hP
        refine (show callN Fs [] (10 + 1) 9 [.int j] m5 _ from half_ok (by omega) ?_)
        refine And.intro d2 ?_
        rw [g1]
        refine (show callN Fs [] (7 + 4) 12 [.cell p, .int ((2 ^ (a - i) : Nat) : Int), .int ((2 ^ (b - j) : Nat) : Int)] m5 _ from snips_ok l3 l4 h3 fun L m6 nd mem len h6 => ?_)
        refine (show callN Fs [] (7 + 4) 13 [.cell p, .lst (L.map ceD)] m6 _ from mixed_up_ok len h6 fun L2 m7 pe h7 => ?_)
        refine (show callN Fs [] (7 + 4) 2 [.int a, .int b, .int i, .int j, .lst (L2.map ceD)] m7 _ from unfolded_ok (by rw [pe.length_eq]; exact len) ha hb (by omega) (by omega) ?_)
        refine (show callN Fs [] (7 + 4) 14 [.int a, .int b, .int i, .int j, .lst (L.map ceD)] m7 _ from picture_ok ha hb (by omega) (by omega) ?_)
        have same : picD L2 a b (fF a i) (fF b j) = picD L a b (fA a i) (fA b j) := by
          rw [pic_perm pe]
          exact pic_eq (fun r hr => (f2 r hr).1) fun r hr => (g2 r hr).1
        have pf : picD L2 a b (fF a i) (fF b j) = picD L a b (fF a i) (fF b j) := pic_perm pe
        refine (show callN Fs [] (8 + 2 + 1) 10 [picD L2 a b (fF a i) (fF b j), picD L a b (fA a i) (fA b j)] m7 _ from ?_)
        rw [← same]
        refine same_ok rfl 2 _ 8 m7 _ (by rw [pf]; exact pic_cmp ha hb) ?_
        have total := count_ok (f := fF a i) (g := fF b j) (R := List.range (2 ^ a)) (C := List.range (2 ^ b)) (u := ((2 ^ i : Nat) : Int)) (v := ((2 ^ j : Nat) : Int)) nd fun q hq => ⟨congrArg Nat.cast (f3 q.1 (mem q hq).1), congrArg Nat.cast (g3 q.2 (mem q hq).2)⟩
        let iD : D → Int := fun d => match d with
          | .int x => x
          | _ => 0
        let G : D → D := fun d => match d with
          | .lst ds => .int (ds.map iD).sum
          | _ => .non
        have eG : ∀ r, G (.lst ((List.range (2 ^ b)).map fun c => .int (b2 (inL L2 (fF a i r) (fF b j c))))) = .int ((List.range (2 ^ b)).map fun c => b2 (inL L (fF a i r) (fF b j c))).sum := fun r => by
          show D.int (((List.range (2 ^ b)).map fun c => D.int (b2 (inL L2 (fF a i r) (fF b j c)))).map iD).sum = _
          rw [List.map_map]
          congr 2
          apply List.map_congr_left
          intro c _
          show b2 (inL L2 (fF a i r) (fF b j c)) = _
          rw [inL_perm pe]
        refine Exists.intro _ (And.intro rfl ?_)
        refine compL_map (F := G) (by rw [List.length_map, List.length_range]; exact Nat.le_trans l1 (by decide)) (fun d hd K4 q4 => ?_) ?_
        · obtain ⟨r, _, rfl⟩ := List.mem_map.mp hd
          rw [eG] at q4
          refine Exists.intro ((List.range (2 ^ b)).map fun c => b2 (inL L (fF a i r) (fF b j c))) (And.intro ?_ q4)
          rw [List.map_map]
          apply List.map_congr_left
          intro c _
          show D.int (b2 (inL L2 (fF a i r) (fF b j c))) = _
          rw [inL_perm pe]
          rfl
        · refine Exists.intro ((List.range (2 ^ a)).map fun r => ((List.range (2 ^ b)).map fun c => b2 (inL L (fF a i r) (fF b j c))).sum) (And.intro ?_ ?_)
          · rw [List.map_map, List.map_map]
            apply List.map_congr_left
            intro r _
            exact eG r
          refine (show callN Fs [] (10 + 1) 9 [.int i] m7 _ from half_ok (by omega) ?_)
          refine And.intro (mul_r (pow_in (by omega))) ?_
          refine (show callN Fs [] (10 + 1) 9 [.int j] m7 _ from half_ok (by omega) ?_)
          refine And.intro (mul_r (pow_in (by omega))) ?_
          refine And.intro rfl (And.intro rfl (ifP (fun h => ?_) fun _ => ?_))
          · have h : (!eqD (.int ((List.range (2 ^ a)).map fun r => ((List.range (2 ^ b)).map fun c => b2 (inL L (fF a i r) (fF b j c))).sum).sum) (.int (((L.map ceD).length : Int) * 2 ^ i * 2 ^ j))) = true := h
            rw [eqD_ii, total, List.length_map] at h
            simp at h
          · exact q _ _ ⟨h7, _, _, _, _, _, _, _, _, _, _, _, _, _, rfl⟩
  · obtain ⟨h1, y2, y3, y4, y5, y6, y7, y8, y9, ya, yb, yc, yd, ye, rfl⟩ := hP
    rfl
end
end Lk41
/-! k41: the head, the checks, the end. -/
namespace Lk41
open PySem PySem.Spec PyProof.Rows L2 Pd
def top (i : Nat) : Stmt := PySem.Challenge.pw_creasewise_k41_sheets_folded_and_cut.main.body.getD i (.Pass ⟨0, 0, 0, 0⟩)
abbrev tD (i : Nat) (x : Str) : He.DefD := ⟨(x, none), x, x, defArgs (top i), defBody (top i), defScope (top i), [], []⟩
def fn : List He.DefD := [tD 1 "power", tD 2 "folded_at", tD 3 "unfolded", tD 5 "_law_mixed", tD 6 "_law_rest", tD 7 "_law_pool", tD 8 "_law_next", tD 9 "_law_draw", tD 10 "_law_sheet", tD 11 "_law_half_power", tD 12 "_law_same", tD 13 "_law_at_row", tD 14 "_law_snips", tD 15 "_law_mixed_up", tD 16 "_law_picture", tD 17 "law"]
def fa : List He.Fa := [.glo "power", .glo "folded_at", .glo "unfolded", .glo "_law_mixed", .glo "_law_rest", .glo "_law_pool", .glo "_law_next", .glo "_law_draw", .glo "_law_sheet", .glo "_law_half_power", .glo "_law_same", .glo "_law_at_row", .glo "_law_snips", .glo "_law_mixed_up", .glo "_law_picture", .glo "law", .free "range", .free "isinstance", .free "int", .free "str", .free "dict", .free "list", .free "min", .free "len", .free "tuple", .free "sum", .free "bool"]
abbrev R : PySem.W.OpenRow := PySem.W.OpenLaw.row PySem.Challenge.rw_creasewise_k41_sheets_folded_and_cut
abbrev hk : PySem.W.Hook := He.hookD 4 fa fn
def ob (s : PySem.W.SharedT) : He.AlD := He.obsDG 4 fa fn (HandSHeadRun.getT s)
theorem ob_eq (s : PySem.W.SharedT) : ob s = hk.obs s.abs := He.obsDG_eq (HandSHeadRun.getT_eq s)
def T : Tb := ⟨tfns, tfree, tcons⟩
def loose : List Str := ["power", "folded_at", "unfolded", "_law_mixed", "_law_rest", "_law_pool", "_law_next", "_law_draw", "_law_sheet", "_law_half_power", "_law_same", "_law_at_row", "_law_snips", "_law_mixed_up", "_law_picture"]
theorem run (w : World) : HandSHeadRun.RunEq R (PySem.W.view R.prog [17]) hk ob 2000 ["power", "folded_at", "unfolded", "_law_mixed", "_law_rest", "_law_pool", "_law_next", "_law_draw", "_law_sheet", "_law_half_power", "_law_same", "_law_at_row", "_law_snips", "_law_mixed_up", "_law_picture"] w := by
  intro os
  kernel_rfl
theorem sc_power : FnScope n_power ["k"] (defScope (top 1)) := ⟨rfl, rfl, rfl, by decide +kernel, by decide +kernel, by decide +kernel, by decide +kernel⟩
theorem ck_power : ckSs T b_power ⟨n_power, defScope (top 1), fun _ => true⟩ (defBody (top 1)) = true := by decide +kernel
theorem d_power {K : PySem.W.Frag} {h : Heap} {mg : Str → Option Value} (X : K.In h) (G : h.Ns mainGlobals mg) (c : He.SaysD fa fn K) : ∃ fd, DefOk K mg T 0 ⟨1, 1, b_power⟩ (He.ga K "power") fd ["k"] ∧ FunD K "power" "power" (defArgs (top 1)) (defBody (top 1)) (defScope (top 1)) [] [] (He.ga K "power") fd := by
  obtain ⟨fd, F⟩ := c.def_ 0 (d := tD 1 "power") rfl
  exact ⟨fd, ⟨"power", _, _, _, _, _, n_power, rfl, He.glo_ok X G (c.fact 0 (f := .glo "power") rfl), F, sc_power, rfl, rfl, F.bindsN (fun _ _ _ _ _ _ us hl => match us, hl with | [_], _ => rfl), ck_power⟩, F⟩
theorem sc_folded_at : FnScope n_folded_at ["n", "i", "r"] (defScope (top 2)) := ⟨rfl, rfl, rfl, by decide +kernel, by decide +kernel, by decide +kernel, by decide +kernel⟩
theorem ck_folded_at : ckSs T b_folded_at ⟨n_folded_at, defScope (top 2), fun _ => true⟩ (defBody (top 2)) = true := by decide +kernel
theorem d_folded_at {K : PySem.W.Frag} {h : Heap} {mg : Str → Option Value} (X : K.In h) (G : h.Ns mainGlobals mg) (c : He.SaysD fa fn K) : ∃ fd, DefOk K mg T 1 ⟨3, 4, b_folded_at⟩ (He.ga K "folded_at") fd ["n", "i", "r"] ∧ FunD K "folded_at" "folded_at" (defArgs (top 2)) (defBody (top 2)) (defScope (top 2)) [] [] (He.ga K "folded_at") fd := by
  obtain ⟨fd, F⟩ := c.def_ 1 (d := tD 2 "folded_at") rfl
  exact ⟨fd, ⟨"folded_at", _, _, _, _, _, n_folded_at, rfl, He.glo_ok X G (c.fact 1 (f := .glo "folded_at") rfl), F, sc_folded_at, rfl, rfl, F.bindsN (fun _ _ _ _ _ _ us hl => match us, hl with | [_, _, _], _ => rfl), ck_folded_at⟩, F⟩
theorem sc_unfolded : FnScope n_unfolded ["a", "b", "i", "j", "places"] (defScope (top 3)) := ⟨rfl, rfl, rfl, by decide +kernel, by decide +kernel, by decide +kernel, by decide +kernel⟩
theorem ck_unfolded : ckSs T b_unfolded ⟨n_unfolded, defScope (top 3), fun _ => true⟩ (defBody (top 3)) = true := by decide +kernel
theorem d_unfolded {K : PySem.W.Frag} {h : Heap} {mg : Str → Option Value} (X : K.In h) (G : h.Ns mainGlobals mg) (c : He.SaysD fa fn K) : ∃ fd, DefOk K mg T 2 ⟨5, 13, b_unfolded⟩ (He.ga K "unfolded") fd ["a", "b", "i", "j", "places"] ∧ FunD K "unfolded" "unfolded" (defArgs (top 3)) (defBody (top 3)) (defScope (top 3)) [] [] (He.ga K "unfolded") fd := by
  obtain ⟨fd, F⟩ := c.def_ 2 (d := tD 3 "unfolded") rfl
  exact ⟨fd, ⟨"unfolded", _, _, _, _, _, n_unfolded, rfl, He.glo_ok X G (c.fact 2 (f := .glo "unfolded") rfl), F, sc_unfolded, rfl, rfl, F.bindsN (fun _ _ _ _ _ _ us hl => match us, hl with | [_, _, _, _, _], _ => rfl), ck_unfolded⟩, F⟩
theorem sc__law_mixed : FnScope n__law_mixed ["number", "place"] (defScope (top 5)) := ⟨rfl, rfl, rfl, by decide +kernel, by decide +kernel, by decide +kernel, by decide +kernel⟩
theorem ck__law_mixed : ckSs T b__law_mixed ⟨n__law_mixed, defScope (top 5), fun _ => true⟩ (defBody (top 5)) = true := by decide +kernel
theorem d__law_mixed {K : PySem.W.Frag} {h : Heap} {mg : Str → Option Value} (X : K.In h) (G : h.Ns mainGlobals mg) (c : He.SaysD fa fn K) : ∃ fd, DefOk K mg T 3 ⟨2, 5, b__law_mixed⟩ (He.ga K "_law_mixed") fd ["number", "place"] ∧ FunD K "_law_mixed" "_law_mixed" (defArgs (top 5)) (defBody (top 5)) (defScope (top 5)) [] [] (He.ga K "_law_mixed") fd := by
  obtain ⟨fd, F⟩ := c.def_ 3 (d := tD 5 "_law_mixed") rfl
  exact ⟨fd, ⟨"_law_mixed", _, _, _, _, _, n__law_mixed, rfl, He.glo_ok X G (c.fact 3 (f := .glo "_law_mixed") rfl), F, sc__law_mixed, rfl, rfl, F.bindsN (fun _ _ _ _ _ _ us hl => match us, hl with | [_, _], _ => rfl), ck__law_mixed⟩, F⟩
theorem sc__law_rest : FnScope n__law_rest ["script", "place", "fills"] (defScope (top 6)) := ⟨rfl, rfl, rfl, by decide +kernel, by decide +kernel, by decide +kernel, by decide +kernel⟩
theorem ck__law_rest : ckSs T b__law_rest ⟨n__law_rest, defScope (top 6), fun _ => true⟩ (defBody (top 6)) = true := by decide +kernel
theorem d__law_rest {K : PySem.W.Frag} {h : Heap} {mg : Str → Option Value} (X : K.In h) (G : h.Ns mainGlobals mg) (c : He.SaysD fa fn K) : ∃ fd, DefOk K mg T 4 ⟨3, 4, b__law_rest⟩ (He.ga K "_law_rest") fd ["script", "place", "fills"] ∧ FunD K "_law_rest" "_law_rest" (defArgs (top 6)) (defBody (top 6)) (defScope (top 6)) [] [] (He.ga K "_law_rest") fd := by
  obtain ⟨fd, F⟩ := c.def_ 4 (d := tD 6 "_law_rest") rfl
  exact ⟨fd, ⟨"_law_rest", _, _, _, _, _, n__law_rest, rfl, He.glo_ok X G (c.fact 4 (f := .glo "_law_rest") rfl), F, sc__law_rest, rfl, rfl, F.bindsN (fun _ _ _ _ _ _ us hl => match us, hl with | [_, _, _], _ => rfl), ck__law_rest⟩, F⟩
theorem sc__law_pool : FnScope n__law_pool ["script"] (defScope (top 7)) := ⟨rfl, rfl, rfl, by decide +kernel, by decide +kernel, by decide +kernel, by decide +kernel⟩
theorem ck__law_pool : ckSs T b__law_pool ⟨n__law_pool, defScope (top 7), fun _ => true⟩ (defBody (top 7)) = true := by decide +kernel
theorem d__law_pool {K : PySem.W.Frag} {h : Heap} {mg : Str → Option Value} (X : K.In h) (G : h.Ns mainGlobals mg) (c : He.SaysD fa fn K) : ∃ fd, DefOk K mg T 5 ⟨1, 1, b__law_pool⟩ (He.ga K "_law_pool") fd ["script"] ∧ FunD K "_law_pool" "_law_pool" (defArgs (top 7)) (defBody (top 7)) (defScope (top 7)) [] [] (He.ga K "_law_pool") fd := by
  obtain ⟨fd, F⟩ := c.def_ 5 (d := tD 7 "_law_pool") rfl
  exact ⟨fd, ⟨"_law_pool", _, _, _, _, _, n__law_pool, rfl, He.glo_ok X G (c.fact 5 (f := .glo "_law_pool") rfl), F, sc__law_pool, rfl, rfl, F.bindsN (fun _ _ _ _ _ _ us hl => match us, hl with | [_], _ => rfl), ck__law_pool⟩, F⟩
theorem sc__law_next : FnScope n__law_next ["pool"] (defScope (top 8)) := ⟨rfl, rfl, rfl, by decide +kernel, by decide +kernel, by decide +kernel, by decide +kernel⟩
theorem ck__law_next : ckSs T b__law_next ⟨n__law_next, defScope (top 8), fun _ => true⟩ (defBody (top 8)) = true := by decide +kernel
theorem d__law_next {K : PySem.W.Frag} {h : Heap} {mg : Str → Option Value} (X : K.In h) (G : h.Ns mainGlobals mg) (c : He.SaysD fa fn K) : ∃ fd, DefOk K mg T 6 ⟨1, 1, b__law_next⟩ (He.ga K "_law_next") fd ["pool"] ∧ FunD K "_law_next" "_law_next" (defArgs (top 8)) (defBody (top 8)) (defScope (top 8)) [] [] (He.ga K "_law_next") fd := by
  obtain ⟨fd, F⟩ := c.def_ 6 (d := tD 8 "_law_next") rfl
  exact ⟨fd, ⟨"_law_next", _, _, _, _, _, n__law_next, rfl, He.glo_ok X G (c.fact 6 (f := .glo "_law_next") rfl), F, sc__law_next, rfl, rfl, F.bindsN (fun _ _ _ _ _ _ us hl => match us, hl with | [_], _ => rfl), ck__law_next⟩, F⟩
theorem sc__law_draw : FnScope n__law_draw ["pool", "limit"] (defScope (top 9)) := ⟨rfl, rfl, rfl, by decide +kernel, by decide +kernel, by decide +kernel, by decide +kernel⟩
theorem ck__law_draw : ckSs T b__law_draw ⟨n__law_draw, defScope (top 9), fun _ => true⟩ (defBody (top 9)) = true := by decide +kernel
theorem d__law_draw {K : PySem.W.Frag} {h : Heap} {mg : Str → Option Value} (X : K.In h) (G : h.Ns mainGlobals mg) (c : He.SaysD fa fn K) : ∃ fd, DefOk K mg T 7 ⟨2, 3, b__law_draw⟩ (He.ga K "_law_draw") fd ["pool", "limit"] ∧ FunD K "_law_draw" "_law_draw" (defArgs (top 9)) (defBody (top 9)) (defScope (top 9)) [] [] (He.ga K "_law_draw") fd := by
  obtain ⟨fd, F⟩ := c.def_ 7 (d := tD 9 "_law_draw") rfl
  exact ⟨fd, ⟨"_law_draw", _, _, _, _, _, n__law_draw, rfl, He.glo_ok X G (c.fact 7 (f := .glo "_law_draw") rfl), F, sc__law_draw, rfl, rfl, F.bindsN (fun _ _ _ _ _ _ us hl => match us, hl with | [_, _], _ => rfl), ck__law_draw⟩, F⟩
theorem sc__law_sheet : FnScope n__law_sheet ["pool"] (defScope (top 10)) := ⟨rfl, rfl, rfl, by decide +kernel, by decide +kernel, by decide +kernel, by decide +kernel⟩
theorem ck__law_sheet : ckSs T b__law_sheet ⟨n__law_sheet, defScope (top 10), fun _ => true⟩ (defBody (top 10)) = true := by decide +kernel
theorem d__law_sheet {K : PySem.W.Frag} {h : Heap} {mg : Str → Option Value} (X : K.In h) (G : h.Ns mainGlobals mg) (c : He.SaysD fa fn K) : ∃ fd, DefOk K mg T 8 ⟨1, 3, b__law_sheet⟩ (He.ga K "_law_sheet") fd ["pool"] ∧ FunD K "_law_sheet" "_law_sheet" (defArgs (top 10)) (defBody (top 10)) (defScope (top 10)) [] [] (He.ga K "_law_sheet") fd := by
  obtain ⟨fd, F⟩ := c.def_ 8 (d := tD 10 "_law_sheet") rfl
  exact ⟨fd, ⟨"_law_sheet", _, _, _, _, _, n__law_sheet, rfl, He.glo_ok X G (c.fact 8 (f := .glo "_law_sheet") rfl), F, sc__law_sheet, rfl, rfl, F.bindsN (fun _ _ _ _ _ _ us hl => match us, hl with | [_], _ => rfl), ck__law_sheet⟩, F⟩
theorem sc__law_half_power : FnScope n__law_half_power ["k"] (defScope (top 11)) := ⟨rfl, rfl, rfl, by decide +kernel, by decide +kernel, by decide +kernel, by decide +kernel⟩
theorem ck__law_half_power : ckSs T b__law_half_power ⟨n__law_half_power, defScope (top 11), fun _ => true⟩ (defBody (top 11)) = true := by decide +kernel
theorem d__law_half_power {K : PySem.W.Frag} {h : Heap} {mg : Str → Option Value} (X : K.In h) (G : h.Ns mainGlobals mg) (c : He.SaysD fa fn K) : ∃ fd, DefOk K mg T 9 ⟨1, 3, b__law_half_power⟩ (He.ga K "_law_half_power") fd ["k"] ∧ FunD K "_law_half_power" "_law_half_power" (defArgs (top 11)) (defBody (top 11)) (defScope (top 11)) [] [] (He.ga K "_law_half_power") fd := by
  obtain ⟨fd, F⟩ := c.def_ 9 (d := tD 11 "_law_half_power") rfl
  exact ⟨fd, ⟨"_law_half_power", _, _, _, _, _, n__law_half_power, rfl, He.glo_ok X G (c.fact 9 (f := .glo "_law_half_power") rfl), F, sc__law_half_power, rfl, rfl, F.bindsN (fun _ _ _ _ _ _ us hl => match us, hl with | [_], _ => rfl), ck__law_half_power⟩, F⟩
theorem sc__law_same : FnScope n__law_same ["actual", "due"] (defScope (top 12)) := ⟨rfl, rfl, rfl, by decide +kernel, by decide +kernel, by decide +kernel, by decide +kernel⟩
theorem ck__law_same : ckSs T b__law_same ⟨n__law_same, defScope (top 12), fun _ => true⟩ (defBody (top 12)) = true := by decide +kernel
theorem d__law_same {K : PySem.W.Frag} {h : Heap} {mg : Str → Option Value} (X : K.In h) (G : h.Ns mainGlobals mg) (c : He.SaysD fa fn K) : ∃ fd, DefOk K mg T 10 ⟨2, 4, b__law_same⟩ (He.ga K "_law_same") fd ["actual", "due"] ∧ FunD K "_law_same" "_law_same" (defArgs (top 12)) (defBody (top 12)) (defScope (top 12)) [] [] (He.ga K "_law_same") fd := by
  obtain ⟨fd, F⟩ := c.def_ 10 (d := tD 12 "_law_same") rfl
  exact ⟨fd, ⟨"_law_same", _, _, _, _, _, n__law_same, rfl, He.glo_ok X G (c.fact 10 (f := .glo "_law_same") rfl), F, sc__law_same, rfl, rfl, F.bindsN (fun _ _ _ _ _ _ us hl => match us, hl with | [_, _], _ => rfl), ck__law_same⟩, F⟩
theorem sc__law_at_row : FnScope n__law_at_row ["n", "i", "r"] (defScope (top 13)) := ⟨rfl, rfl, rfl, by decide +kernel, by decide +kernel, by decide +kernel, by decide +kernel⟩
theorem ck__law_at_row : ckSs T b__law_at_row ⟨n__law_at_row, defScope (top 13), fun _ => true⟩ (defBody (top 13)) = true := by decide +kernel
theorem d__law_at_row {K : PySem.W.Frag} {h : Heap} {mg : Str → Option Value} (X : K.In h) (G : h.Ns mainGlobals mg) (c : He.SaysD fa fn K) : ∃ fd, DefOk K mg T 11 ⟨3, 4, b__law_at_row⟩ (He.ga K "_law_at_row") fd ["n", "i", "r"] ∧ FunD K "_law_at_row" "_law_at_row" (defArgs (top 13)) (defBody (top 13)) (defScope (top 13)) [] [] (He.ga K "_law_at_row") fd := by
  obtain ⟨fd, F⟩ := c.def_ 11 (d := tD 13 "_law_at_row") rfl
  exact ⟨fd, ⟨"_law_at_row", _, _, _, _, _, n__law_at_row, rfl, He.glo_ok X G (c.fact 11 (f := .glo "_law_at_row") rfl), F, sc__law_at_row, rfl, rfl, F.bindsN (fun _ _ _ _ _ _ us hl => match us, hl with | [_, _, _], _ => rfl), ck__law_at_row⟩, F⟩
theorem sc__law_snips : FnScope n__law_snips ["pool", "rows", "columns"] (defScope (top 14)) := ⟨rfl, rfl, rfl, by decide +kernel, by decide +kernel, by decide +kernel, by decide +kernel⟩
theorem ck__law_snips : ckSs T b__law_snips ⟨n__law_snips, defScope (top 14), fun _ => true⟩ (defBody (top 14)) = true := by decide +kernel
theorem d__law_snips {K : PySem.W.Frag} {h : Heap} {mg : Str → Option Value} (X : K.In h) (G : h.Ns mainGlobals mg) (c : He.SaysD fa fn K) : ∃ fd, DefOk K mg T 12 ⟨3, 6, b__law_snips⟩ (He.ga K "_law_snips") fd ["pool", "rows", "columns"] ∧ FunD K "_law_snips" "_law_snips" (defArgs (top 14)) (defBody (top 14)) (defScope (top 14)) [] [] (He.ga K "_law_snips") fd := by
  obtain ⟨fd, F⟩ := c.def_ 12 (d := tD 14 "_law_snips") rfl
  exact ⟨fd, ⟨"_law_snips", _, _, _, _, _, n__law_snips, rfl, He.glo_ok X G (c.fact 12 (f := .glo "_law_snips") rfl), F, sc__law_snips, rfl, rfl, F.bindsN (fun _ _ _ _ _ _ us hl => match us, hl with | [_, _, _], _ => rfl), ck__law_snips⟩, F⟩
theorem sc__law_mixed_up : FnScope n__law_mixed_up ["pool", "items"] (defScope (top 15)) := ⟨rfl, rfl, rfl, by decide +kernel, by decide +kernel, by decide +kernel, by decide +kernel⟩
theorem ck__law_mixed_up : ckSs T b__law_mixed_up ⟨n__law_mixed_up, defScope (top 15), fun _ => true⟩ (defBody (top 15)) = true := by decide +kernel
theorem d__law_mixed_up {K : PySem.W.Frag} {h : Heap} {mg : Str → Option Value} (X : K.In h) (G : h.Ns mainGlobals mg) (c : He.SaysD fa fn K) : ∃ fd, DefOk K mg T 13 ⟨2, 5, b__law_mixed_up⟩ (He.ga K "_law_mixed_up") fd ["pool", "items"] ∧ FunD K "_law_mixed_up" "_law_mixed_up" (defArgs (top 15)) (defBody (top 15)) (defScope (top 15)) [] [] (He.ga K "_law_mixed_up") fd := by
  obtain ⟨fd, F⟩ := c.def_ 13 (d := tD 15 "_law_mixed_up") rfl
  exact ⟨fd, ⟨"_law_mixed_up", _, _, _, _, _, n__law_mixed_up, rfl, He.glo_ok X G (c.fact 13 (f := .glo "_law_mixed_up") rfl), F, sc__law_mixed_up, rfl, rfl, F.bindsN (fun _ _ _ _ _ _ us hl => match us, hl with | [_, _], _ => rfl), ck__law_mixed_up⟩, F⟩
theorem sc__law_picture : FnScope n__law_picture ["a", "b", "i", "j", "places"] (defScope (top 16)) := ⟨rfl, rfl, rfl, by decide +kernel, by decide +kernel, by decide +kernel, by decide +kernel⟩
theorem ck__law_picture : ckSs T b__law_picture ⟨n__law_picture, defScope (top 16), fun _ => true⟩ (defBody (top 16)) = true := by decide +kernel
theorem d__law_picture {K : PySem.W.Frag} {h : Heap} {mg : Str → Option Value} (X : K.In h) (G : h.Ns mainGlobals mg) (c : He.SaysD fa fn K) : ∃ fd, DefOk K mg T 14 ⟨5, 9, b__law_picture⟩ (He.ga K "_law_picture") fd ["a", "b", "i", "j", "places"] ∧ FunD K "_law_picture" "_law_picture" (defArgs (top 16)) (defBody (top 16)) (defScope (top 16)) [] [] (He.ga K "_law_picture") fd := by
  obtain ⟨fd, F⟩ := c.def_ 14 (d := tD 16 "_law_picture") rfl
  exact ⟨fd, ⟨"_law_picture", _, _, _, _, _, n__law_picture, rfl, He.glo_ok X G (c.fact 14 (f := .glo "_law_picture") rfl), F, sc__law_picture, rfl, rfl, F.bindsN (fun _ _ _ _ _ _ us hl => match us, hl with | [_, _, _, _, _], _ => rfl), ck__law_picture⟩, F⟩
theorem sc_law : FnScope n_law ["script"] (defScope (top 17)) := ⟨rfl, rfl, rfl, by decide +kernel, by decide +kernel, by decide +kernel, by decide +kernel⟩
theorem ck_law : ckSs T b_law ⟨n_law, defScope (top 17), fun _ => true⟩ (defBody (top 17)) = true := by decide +kernel
theorem d_law {K : PySem.W.Frag} {h : Heap} {mg : Str → Option Value} (X : K.In h) (G : h.Ns mainGlobals mg) (c : He.SaysD fa fn K) : ∃ fd, DefOk K mg T 15 ⟨1, 15, b_law⟩ (He.ga K "law") fd ["script"] ∧ FunD K "law" "law" (defArgs (top 17)) (defBody (top 17)) (defScope (top 17)) [] [] (He.ga K "law") fd := by
  obtain ⟨fd, F⟩ := c.def_ 15 (d := tD 17 "law") rfl
  exact ⟨fd, ⟨"law", _, _, _, _, _, n_law, rfl, He.glo_ok X G (c.fact 15 (f := .glo "law") rfl), F, sc_law, rfl, rfl, F.bindsN (fun _ _ _ _ _ _ us hl => match us, hl with | [_], _ => rfl), ck_law⟩, F⟩
theorem all {K : PySem.W.Frag} {h : Heap} {mg : Str → Option Value} (X : K.In h) (G : h.Ns mainGlobals mg) (c : He.SaysD fa fn K) : AllD K mg T 0 Fs := by
  obtain ⟨_, d_power, _⟩ := d_power X G c
  obtain ⟨_, d_folded_at, _⟩ := d_folded_at X G c
  obtain ⟨_, d_unfolded, _⟩ := d_unfolded X G c
  obtain ⟨_, d__law_mixed, _⟩ := d__law_mixed X G c
  obtain ⟨_, d__law_rest, _⟩ := d__law_rest X G c
  obtain ⟨_, d__law_pool, _⟩ := d__law_pool X G c
  obtain ⟨_, d__law_next, _⟩ := d__law_next X G c
  obtain ⟨_, d__law_draw, _⟩ := d__law_draw X G c
  obtain ⟨_, d__law_sheet, _⟩ := d__law_sheet X G c
  obtain ⟨_, d__law_half_power, _⟩ := d__law_half_power X G c
  obtain ⟨_, d__law_same, _⟩ := d__law_same X G c
  obtain ⟨_, d__law_at_row, _⟩ := d__law_at_row X G c
  obtain ⟨_, d__law_snips, _⟩ := d__law_snips X G c
  obtain ⟨_, d__law_mixed_up, _⟩ := d__law_mixed_up X G c
  obtain ⟨_, d__law_picture, _⟩ := d__law_picture X G c
  obtain ⟨_, d_law, _⟩ := d_law X G c
  exact ⟨⟨_, _, _, d_power⟩, ⟨_, _, _, d_folded_at⟩, ⟨_, _, _, d_unfolded⟩, ⟨_, _, _, d__law_mixed⟩, ⟨_, _, _, d__law_rest⟩, ⟨_, _, _, d__law_pool⟩, ⟨_, _, _, d__law_next⟩, ⟨_, _, _, d__law_draw⟩, ⟨_, _, _, d__law_sheet⟩, ⟨_, _, _, d__law_half_power⟩, ⟨_, _, _, d__law_same⟩, ⟨_, _, _, d__law_at_row⟩, ⟨_, _, _, d__law_snips⟩, ⟨_, _, _, d__law_mixed_up⟩, ⟨_, _, _, d__law_picture⟩, ⟨_, _, _, d_law⟩, trivial⟩
theorem free {K : PySem.W.Frag} {h : Heap} {mg : Str → Option Value} (X : K.In h) (G : h.Ns mainGlobals mg) (c : He.SaysD fa fn K) : ∀ x ∈ T.free, mg x = none := by
  intro x hx
  have hx : x ∈ [("range" : Str), ("isinstance" : Str), ("int" : Str), ("str" : Str), ("dict" : Str), ("list" : Str), ("min" : Str), ("len" : Str), ("tuple" : Str), ("sum" : Str), ("bool" : Str)] := hx
  simp only [List.mem_cons, List.not_mem_nil, or_false] at hx
  rcases hx with rfl | rfl | rfl | rfl | rfl | rfl | rfl | rfl | rfl | rfl | rfl
  · exact He.free_ok X G (c.fact 16 (f := .free "range") rfl)
  · exact He.free_ok X G (c.fact 17 (f := .free "isinstance") rfl)
  · exact He.free_ok X G (c.fact 18 (f := .free "int") rfl)
  · exact He.free_ok X G (c.fact 19 (f := .free "str") rfl)
  · exact He.free_ok X G (c.fact 20 (f := .free "dict") rfl)
  · exact He.free_ok X G (c.fact 21 (f := .free "list") rfl)
  · exact He.free_ok X G (c.fact 22 (f := .free "min") rfl)
  · exact He.free_ok X G (c.fact 23 (f := .free "len") rfl)
  · exact He.free_ok X G (c.fact 24 (f := .free "tuple") rfl)
  · exact He.free_ok X G (c.fact 25 (f := .free "sum") rfl)
  · exact He.free_ok X G (c.fact 26 (f := .free "bool") rfl)
theorem headFacts {P : Program} {w : World} {K : PySem.W.Frag} {h : Heap} {mg : Str → Option Value} {f : Addr} (X : K.In h) (G : h.Ns mainGlobals mg) (hfa : mg ("law" : Str) = some (.ref f)) (c : He.SaysD fa fn K) :
    ∃ fd : FuncData, (∀ (s : Shared) (v : Value), BindsTo s fd ⟨[v], []⟩ [("script", v)]) ∧ ∀ base : Heap, K.In base → base.Ns mainGlobals mg → FnOk P w K mg base CX0 12 f fd ["script"] (spC K (callN Fs [] 12 15)) := by
  obtain ⟨fd, D, F⟩ := d_law X G c
  have e := hfa.symm.trans (He.glo_ok X G (c.fact 15 (f := .glo "law") rfl))
  cases e
  have b := FunD.bindsA (ps := ["script"]) F fun _ _ _ _ _ _ us hl => match us, hl with | [_], _ => rfl
  refine ⟨fd, fun s v => b s [v] rfl, fun base _ _ => ?_⟩
  exact fns_ok (T := T) (tabOk_at (by decide +kernel)) (fun f F e => by
    have z := (all X G c).at f F e
    rw [Nat.zero_add] at z
    exact z) (free X G c) (fun i x d e1 e2 => by simp at e2) 12 15 _ _ _ _ rfl D
end Lk41
open PySem PySem.W PySem.Calls PyProof.Rows
theorem PySem.Challenge.cw_creasewise_k41_sheets_folded_and_cut_holds : PySem.Challenge.rw_creasewise_k41_sheets_folded_and_cut.Holds := by
  w_on; o_law
  refine HandSHeadRun.head_any (r := OpenLaw.row PySem.Challenge.rw_creasewise_k41_sheets_folded_and_cut) (q := view (OpenLaw.row PySem.Challenge.rw_creasewise_k41_sheets_folded_and_cut).prog [17]) (H := Lk41.hk) (ob := Lk41.ob) (M := 2000) (loose := ["power", "folded_at", "unfolded", "_law_mixed", "_law_rest", "_law_pool", "_law_next", "_law_draw", "_law_sheet", "_law_half_power", "_law_same", "_law_at_row", "_law_snips", "_law_mixed_up", "_law_picture"]) (d := HandSHeadRun.topDef (OpenLaw.row PySem.Challenge.rw_creasewise_k41_sheets_folded_and_cut).prog 17) (kwd := []) Lk41.ob_eq
    (by kernel_rfl) (fun s => by kernel_rfl) Lk41.run (by kernel_rfl) (by kernel_rfl) (by kernel_rfl) (by rfl) (by first | assumption | decide +kernel) (by decide +kernel) ⟨rfl, rfl, rfl, rfl, rfl, by decide +kernel⟩ ?hw ?hc
  case hw => w_witness2
  case hc =>
    refine L2.walk_ofE (l := PySem.Challenge.rw_creasewise_k41_sheets_folded_and_cut) (n := 63) (k := 12) (x := "script") (CX := L2.CX0) rfl (by decide) (by kernel_rfl) ⟨rfl, by decide, by decide⟩ ?F (fun _ _ _ _ z => z)
    intro w mg fa h Y G hmg0
    obtain ⟨K, KX, c⟩ := Y
    have hmg : mg ("law" : PySem.Str) = some (.ref fa) := by
      have e : (HandSHeadRun.topDef (OpenLaw.row PySem.Challenge.rw_creasewise_k41_sheets_folded_and_cut).prog 17).name = ("law" : PySem.Str) := by kernel_rfl
      rw [← e]
      exact hmg0
    obtain ⟨fd, hb, hF⟩ := Lk41.headFacts (P := (PySem.Challenge.rw_creasewise_k41_sheets_folded_and_cut).prog) (w := w) KX G hmg c
    exact ⟨K, fd, _, KX, hb, fun H a ns hl _ hS => Pd.law_in hS (Lk41.law_ok ns hl), hF⟩
